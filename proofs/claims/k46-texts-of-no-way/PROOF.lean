import PyProof.Rows.All
import Wide.All
import OpenK.AllK
import Wide.FinOn
import PySem.Challenge.RW_mirrorsums_k46_texts_of_no_way
import HandS.Base
import HandS.Call
import HandS.List
import HandS.Comp
import HandS.Dict
import HandS.Iter
import HandS.Zip
import HandS.Walk
import HandS.Exc
import HandS.ExcOwn
import HandS.Wide
import HandS.Words
import HandS.WordsList
import HandS.WordsExc
import HandS.Text
import HandS.IsInst
import HandS.Conv
import HandS.Style
import HandS.TryOnly
import HandS.Ends
import HandS.EndBits
import HandS.Evl
import PyProof.ReprRoads
import KE.KDictItemsList
import KE.KDictZip
import PyProof.EnumMake
import HandS.Steps
import KE.KExcIs
import HandS.ExcBuiltin
import HandS.ExcValue
import PyProof.StrBlock2
import HandS.Deep
import PyProof.ReprBulk
import PyProof.EqAt
import PyProof.EqKinds
import PyProof.NeKinds
import HandS.SortInts
import HandS.TupLen
import PyProof.NeData
import HandS.SetFor
import HandS.Strs
import HandS.ExcIs
import KE.GoesComp
import KE.GoesRaise
import HandS.JoinGen
import KE.IntTextLaws
import HandS.AnyAll
set_option Elab.async false
set_option linter.all false
set_option maxRecDepth 100000
set_option maxHeartbeats 8000000
/-! the machine's side: contracts that know that no repr runs around -/
namespace Mi
open PySem PySem.Spec PyProof.Rows L2

structure Rm (k : Nat) (A : Around) : Prop where
  rm : Room k A
  gd : A.guards = some []
theorem Rm.mono {j k : Nat} {A : Around} (r : Rm k A) (h : j ≤ k) : Rm j A := ⟨r.rm.mono h, r.gd⟩
theorem gd_deeper {A : Around} {env : Env} (h : A.guards = some []) : (A.deeper env).guards = some [] := h
theorem Rm.deeper {k : Nat} {A : Around} (r : Rm (k + 1) A) (env : Env) : Rm k (A.deeper env) := ⟨r.rm.deeper env, gd_deeper r.gd⟩

structure Fg (P : Program) (w : World) (K : PySem.W.Frag) (mg : Str → Option Value) (base : Heap) (k : Nat) (f : Addr) (sp : Sp) : Prop where
  run : ∀ (A : Around) (outer : List Env) (s : Shared) (H : Hp) (us : List Value) (vs : List V) (Q : VK) (E : XK), Rm k A → Env0 P w K mg base A outer s H → Vals vs us → sp vs H Q E →
    codeAny (model P w) A (.call (.ref f) ⟨us, []⟩) (CR (L2.CX P w) outer P w H s Q E) s

section
variable {P : Program} {w : World} {K : PySem.W.Frag} {mg : Str → Option Value} {base : Heap}
theorem Fg.mono {j k : Nat} {f : Addr} {sp : Sp} (F : Fg P w K mg base j f sp) (h : j ≤ k) : Fg P w K mg base k f sp :=
  ⟨fun A outer s H us vs Q E hr => F.run A outer s H us vs Q E (hr.mono h)⟩
theorem Fg.imp {k : Nat} {f : Addr} {sp sp' : Sp} (F : Fg P w K mg base k f sp) (h : ∀ vs H Q E, sp' vs H Q E → sp vs H Q E) : Fg P w K mg base k f sp' :=
  ⟨fun A outer s H us vs Q E hr he hv hs => F.run A outer s H us vs Q E hr he hv (h _ _ _ _ hs)⟩

/-- a def of the text keeps its promise, by its body -/
theorem fg_of {x qual : Str} {st : Stmt} {f : Addr} {fd : FuncData} {N ps : List Str} {k : Nat} {sp : Sp} (F : Fun K x qual st f fd) (S : FnScope N ps (defScope st)) (B : Binds K fd ps [])
    (len : ∀ vs H Q E, sp vs H Q E → vs.length = ps.length)
    (hbody : ∀ (cdv : Value) (A : Around) (outer : List Env) (s : Shared) (H : Hp) (vs : List V) (Q : VK) (E : XK), Rm k (A.deeper (envOfC qual (defScope st) s.heap.objs.size f cdv)) → sp vs H Q E →
      ∃ t, PSs (cxOf (L2.CX P w) P w K mg base N qual (defScope st) f cdv A outer s H E) (defBody st) t ∧ t { nx := fun _ H' => Q .non H', rt := Q } (start N vs) H) :
    Fg P w K mg base (k + 1) f sp := by
  constructor
  intro A outer s H us vs Q E hr e0 rv hsp
  obtain ⟨oc, od, kV, doc, pm, an, cdv, ct, osl, efd, lk, hcd⟩ := F.ex
  have hlen : vs.length = ps.length := len _ _ _ _ hsp
  have KX : K.In s.heap := e0.mod.kin.keeps (fun b o e => (e0.bs b o e).left)
  have hnl : s.heap.NoLimit := e0.mod.nolimit.keeps (fun b o e => (e0.bs b o e).left)
  have hbind : BindsTo s fd ⟨us, []⟩ (ps.zip us) := by
    have z := B s us KX (by rw [List.append_nil, ← rv.length]; exact hlen)
    rw [List.append_nil] at z
    exact z
  subst efd
  have hkind : ∀ y ∈ ps.zip us, (defScope st).names.lookup y.1 = some .local ∨ ((defScope st).names.lookup y.1 = some .cell ∧ ((cellsFrom (s.heap.objs.size + 1) (defScope st).names []).lookup y.1).isSome = true) := by
    rintro ⟨n, v⟩ hy
    cases S.par n (List.of_mem_zip hy).1 with
    | inl q => exact Or.inl q
    | inr q => exact Or.inr ⟨q, PySem.W.cellsFrom_some _ _ _ (Or.inl q)⟩
  apply codeAny_call_function hr.rm.depth (KX _ _ lk) rfl S.co S.gen rfl (PySem.W.codeRec_of KX hcd)
  apply hbind
  apply wpAny_newFunctionEnv_cells S.kind hkind
  intro env he s1 x
  subst he
  obtain ⟨t, ht, hq⟩ := hbody cdv A outer s H vs Q E (hr.deeper _) hsp
  refine ⟨hnl.keeps x.toInCall.keep, codeAny_func ?_⟩
  have I : Inv (cxOf (L2.CX P w) P w K mg base N qual (defScope st) f cdv A outer s H E) [] (start N vs) H s1 := inv_start S hr.rm.hd e0 hlen rv x
  apply wpAny_mono (ht.run [] s1 (start N vs) H _ I hq)
  · intro fl s' hs
    cases fl with
    | ret u =>
      obtain ⟨v, σ', H', J, r2, q⟩ := hs
      exact ⟨v, H', J.os, J.bare, J.base, J.hok, r2, q⟩
    | next =>
      obtain ⟨σ', H', J, q⟩ := hs
      exact ⟨V.non, H', J.os, J.bare, J.base, J.hok, rfl, q⟩
    | brk => exact hs.elim fun _ h => h.elim fun _ h => h.2.elim
    | cont => exact hs.elim fun _ h => h.elim fun _ h => h.2.elim
  · exact fun e s' hs => hs
end

/-- a called def: where it stands, and its promise -/
structure Cal (P : Program) (w : World) (K : PySem.W.Frag) (mg : Str → Option Value) (base : Heap) (k : Nat) (nm : Str) (sp : Sp) : Prop where
  ex : ∃ f : Addr, mg nm = some (.ref f) ∧ PySem.W.keepIn K (.ref f) = true ∧ Fg P w K mg base k f sp
theorem Cal.mono {P : Program} {w : World} {K : PySem.W.Frag} {mg : Str → Option Value} {base : Heap} {j k : Nat} {nm : Str} {sp : Sp} (C : Cal P w K mg base j nm sp) (h : j ≤ k) : Cal P w K mg base k nm sp := by
  obtain ⟨f, a, b, F⟩ := C.ex
  exact ⟨f, a, b, F.mono h⟩

section
variable {X : Cx} {k : Nat} {x : Str} {p pos : Pos} {e : Expr} {es : List Expr} {t : TA} {sp : Sp}
/-- what a call may let out, at the slots σ -/
def PasS (X : Cx) (E : L2.St → XK) : Prop := ∀ σ, PassesAt (L2.CX X.prog X.w) X σ (E σ)
theorem pas0 : PasS X (fun _ => E0) := fun σ pins H s e s' I h => passL pins σ H s e s' I h
theorem pasE {E : XK} (h : Passes (L2.CX X.prog X.w) X E) : PasS X (fun _ => E) := fun σ pins H s e s' I q => h pins σ H s e s' I q
theorem pasW {W : WX} (tk : Takes X W) : PasS X (WE W) := fun σ => passAt tk σ
theorem run_fg {pins : List (Addr × Obj)} {σ : L2.St} {H : Hp} {s : Shared} {Q : VK} {us : List Value} {vs : List V} {f : Addr} {E : L2.St → XK} (F : Fg X.prog X.w X.K X.mg X.base k f sp) (hr : Rm k X.A) (hx : PasS X E)
    (I : Inv X pins σ H s) (r : Vals vs us) (h : sp vs H Q (E σ)) : wpAny (model X.prog X.w) X.A (call (.ref f) us) (EP X pins σ Q) X.xe s := by
  apply wpAny_call
  apply codeAny_mono (F.run X.A X.stack s H us vs Q (E σ) hr I.env0 r h)
  rintro (e | fl) s' hq
  · exact hx σ pins H s e s' I hq
  · cases fl with
    | ret u => exact I.after hq
    | next => exact hq.elim
    | brk => exact hq.elim
    | cont => exact hq.elim
def tGo (sp : Sp) (E : L2.St → XK) (t : TA) : TE := fun σ H Q => t σ H fun vs H1 => sp vs H1 Q (E σ)
theorem pe_go {E : L2.St → XK} (C : Cal X.prog X.w X.K X.mg X.base k x sp) (hr : Rm k X.A) (hx : PasS X E) (ha : PA X (e :: es) t) (hg : Gl X x := by rfl) (hdb : (x == ("__debug__" : Str)) = false := by decide)
    (he : starEach (e :: es) X.env = (false, eval e X.env) :: starEach es X.env := by rfl) (hpl : (backTo pos (starEach es X.env)).any (·.1) = false := by rfl) : PE X (.Call (.Name x p) (e :: es) [] pos) (tGo sp E t) := by
  obtain ⟨f, hm, hk, F⟩ := C.ex
  constructor
  intro pins s σ H Q I h
  apply wpAny_Call_Name_kw
  apply ld_glob I hg hm _ hdb
  refine PySem.W.callWith_K (h₀ := X.base) I.ok.mod.kin hk ?_ he hpl
  apply thn (ha.run pos pins s σ H _ I h)
  rintro us s1 ⟨vs, H1, I1, r, q⟩
  exact ⟨I1.kIn, run_fg F hr hx I1 r q⟩
end

/-- repr of data -/
def rRepr (K : PySem.W.Frag) : List V → Hp → VK → Prop := fun xs H Q => ∃ (a : Addr) (d : PyData), xs = [.ref a] ∧ Dp K H (.ref a) d ∧ d.showable = true ∧ d.hasDict = false ∧ d.depth ≤ 64 ∧ d.shown.length ≤ sizeLine ∧ Q (.str d.shown) H
theorem call_repr {X : Cx} {k : Nat} (hr : Rm k X.A) : CallR X (.builtin "repr") (rRepr X.K) := by
  intro pins s σ H xs us Q I r h
  obtain ⟨a, d, rfl, hd, h1, h2, h3, h4, q⟩ := h
  cases r with
  | cons r1 r2 =>
    cases r2
    obtain ⟨as, rd⟩ := Dp.reads I d _ _ hd r1
    cases (show _ = Value.ref a from r1)
    refine repr_of_reads' rd h1 (fun z => by rw [h2] at z; cases z) hr.gd ?_ (fun _ _ z => z) ?_ h4
    · have := hr.rm.un
      omega
    · intro h' u tk kp
      exact ⟨.str d.shown, H, I.kept kp, ⟨u, rfl⟩, q⟩

/-- ends: the law's def at the caller -/
theorem law_end {P : Program} {w : World} {K : PySem.W.Frag} {mg mb : Str → Option Value} {k : Nat} {fa a : Addr} {sp : Sp} {s₁ : Shared} {vs : List Value} {ns : List Int}
    (KX : K.In s₁.heap) (hns : s₁.heap.Ns mainGlobals mg) (hb : s₁.heap.Ns builtinsNs mb) (hbb : ∀ x : Str, x ≠ "__name__" → mb x = bootBuiltins x) (hlim : s₁.heap.NoLimit) (hgen : s₁.gens = #[])
    (ha : s₁.heap.get? a = some { cls := .type "list", data := .seq vs.toArray }) (hi : IntsAre vs ns) (hl : ns.length ≤ sizeLine) (hr : Room k callerA)
    {sq : Prop} (hsq : sq → ∃ mm, s₁.heap.Ns sysModules mm) (F : ∀ base : Heap, K.In base → base.Ns mainGlobals mg → (sq → ∃ o es ep, base.get? sysModules = some o ∧ o.data = .dict es ep) → Fg P w K mg base k fa sp)
    (hsp : ∀ H : Hp, Only H → SqL K H a (ns.map V.int) → sp [.ref a] H (fun v _ => v = .bl true) fun _ _ _ => False) :
    codeAny (model P w) callerA (.call (.ref fa) ⟨[.ref a], []⟩) (fun r s' => r = .ok (.ret (.bool true)) ∧ OldK s₁.heap s'.heap ∧ s'.os = s₁.os ∧ AllBare s'.gens) s₁ := by
  have rv := vals_ints hi
  -- the abstract heap: the script alone, if it is not the module's own
  obtain ⟨H, hO, hS, hok, hA, hK⟩ : ∃ H : Hp, Only H ∧ SqL K H a (ns.map V.int) ∧ HOk P w H s₁.heap ∧ (∀ b u, H b = some u → b = a) ∧ (∀ u, H a = some u → K.lookup a = none) := by
    cases hk : K.lookup a with
    | some o =>
      have e := (KX a o hk).symm.trans ha
      cases e
      refine ⟨fun _ => none, fun _ => Or.inl rfl, Or.inr ⟨_, vs.toArray, _, hk, rfl, rfl, rfl, ?_, by simpa using rv⟩, fun b u z => (nomatch z), fun b u z => (nomatch z), fun u z => (nomatch z)⟩
      rw [List.size_toArray, hi.length]
      exact hl
    | none =>
      refine ⟨upd (fun _ => none) a (.frz { cls := .type "list", data := .seq vs.toArray } (.lst (ns.map V.int))), fun b => ?_, Or.inl (Or.inr ⟨_, upd_same⟩), fun b u z => ?_, fun b u z => ?_, fun _ _ => rfl⟩
      · by_cases e : b = a
        · subst e
          exact Or.inr ⟨_, _, upd_same⟩
        · exact Or.inl (upd_ne e)
      · by_cases e : b = a
        · subst e
          rw [upd_same] at z
          cases z
          exact ⟨ha, by rw [List.length_map]; exact hl, vs, _, rv, ha⟩
        · rw [upd_ne e] at z
          cases z
      · by_cases e : b = a
        · exact e
        · rw [upd_ne e] at z
          cases z
  have keepN : ∀ {b : Addr} {o : Obj}, s₁.heap.get? b = some o → (∀ u, H b ≠ some u) → (hidT s₁.heap H).get? b = some o := fun {b o} e n => hidT_get e (by
    cases q : H b with
    | none => rfl
    | some u => exact (n u q).elim)
  have nsOf : ∀ {b : Addr} {m : Str → Option Value}, s₁.heap.Ns b m → (hidT s₁.heap H).Ns b m := by
    rintro b m ⟨o, es, ep, e, d, r⟩
    refine ⟨o, es, ep, keepN e (fun u z => ?_), d, r⟩
    have eb := hA b u z
    subst eb
    rw [ha] at e
    cases e
    exact (nomatch d)
  have hKb : K.In (hidT s₁.heap H) := fun b o e => keepN (KX b o e) (fun u z => by
    have eb := hA b u z
    subst eb
    rw [hK u z] at e
    cases e)
  have hM : Mod K mg (hidT s₁.heap H) := ⟨hKb, nsOf hns, ⟨mb, nsOf hb, hbb⟩, by
    obtain ⟨mc, h1, h2⟩ := hlim
    exact ⟨mc, nsOf h1, h2⟩⟩
  have nofr : ∀ {b : Addr}, ¬ b ∈ frs [] := fun {b} z => by
    have z' : b ∈ ([] : List Addr) := z
    cases z'
  have e0 : Env0 P w K mg (hidT s₁.heap H) callerA [] s₁ H := ⟨rfl, hM, fun b o e => of_hidT e, Nat.le_of_eq (hidT_size _ _), trivial, fun b hb => (nofr hb).elim, hok, .of_eq hgen⟩
  have run := (F _ hKb (nsOf hns) fun q => by
    obtain ⟨mm, z⟩ := hsq q
    obtain ⟨o, es, ep, e, d, _⟩ := nsOf z
    exact ⟨o, es, ep, e, d⟩).run callerA [] s₁ H [.ref a] [.ref a] _ _ ⟨hr, rfl⟩ e0 (.cons rfl .nil) (hsp H hO hS)
  apply codeAny_mono run
  rintro (e | fl) s' h
  · obtain ⟨_, _, _, _, _, _, _, _, _, _, _, _, z⟩ := h
    exact z.elim
  · cases fl with
    | next => exact h.elim
    | brk => exact h.elim
    | cont => exact h.elim
    | ret u =>
      obtain ⟨v, H', os, bare, un, hok', r', q⟩ := h
      cases (show v = .bl true from q)
      cases (show u = Value.bool true from r')
      refine ⟨rfl, OldK.of_keep fun b o e => ?_, os, bare⟩
      rcases hO b with z | ⟨ob, xs, z⟩
      · exact un.keep b o e z nofr (by simp)
      · obtain ⟨e1, _⟩ := hok b _ z
        obtain ⟨e2, _⟩ := hok' b _ (un.frzs b ob _ z)
        rw [e] at e1
        cases e1
        exact e2
theorem law_walk {l : PySem.W.OpenLaw} {n k : Nat} {q : Program} {loose : List Str} {XP : (Str → Option Value) → Heap → Prop} {YP : World → Heap → Prop} {d : DefRec} {K : Params → PySem.W.Frag} {sp : PySem.W.Frag → Sp}
    (hn : l.most = some n) (hn2 : n ≤ sizeLine) (hdf : d.params.defaults = []) (hr : Room k callerA)
    (hY : ∀ (w : World) (h : Heap), YP w h → (K w.params).In h)
    (F : ∀ (w : World) (mg : Str → Option Value) (fa : Addr) (h : Heap), (K w.params).In h → h.Ns mainGlobals mg → mg d.name = some (.ref fa) →
        ∀ base : Heap, (K w.params).In base → base.Ns mainGlobals mg → Fg l.prog w (K w.params) mg base k fa (sp (K w.params)))
    (hsp : ∀ (K : PySem.W.Frag) (H : Hp) (a : Addr) (ns : List Int), ns.length ≤ n → Only H → SqL K H a (ns.map V.int) → sp K [.ref a] H (fun v _ => v = .bl true) fun _ _ _ => False) :
    PySem.W.WalkO q loose XP YP l.row.toRowW d [] (fun f vs => PySem.call f vs) := by
  apply Att.attach_call hn hdf
  intro w s₀ s₁ mg mb fa o pm cd doc a vs ns G Y ho hd hcd hmg hobj hints hlen hg
  have KX := hY w _ Y
  exact law_end KX G.T.g G.T.b G.T.builtins G.T.nolimit hg hobj hints (Nat.le_trans hlen hn2) hr (sq := False) (fun z => z.elim) (fun base a1 a2 _ => F w mg fa _ KX G.T.g hmg base a1 a2) (fun H hO hS => hsp _ H a ns hlen hO hS)
/-- the same; sys.modules is there -/
theorem law_walkS {l : PySem.W.OpenLaw} {n k : Nat} {q : Program} {loose : List Str} {XP : (Str → Option Value) → Heap → Prop} {YP : World → Heap → Prop} {d : DefRec} {K : Params → PySem.W.Frag} {sp : PySem.W.Frag → Sp}
    (hn : l.most = some n) (hn2 : n ≤ sizeLine) (hdf : d.params.defaults = []) (hr : Room k callerA)
    (hY : ∀ (w : World) (h : Heap), YP w h → (K w.params).In h)
    (F : ∀ (w : World) (mg : Str → Option Value) (fa : Addr) (h : Heap), (K w.params).In h → h.Ns mainGlobals mg → mg d.name = some (.ref fa) →
        ∀ base : Heap, (K w.params).In base → base.Ns mainGlobals mg → (∃ o es ep, base.get? sysModules = some o ∧ o.data = .dict es ep) → Fg l.prog w (K w.params) mg base k fa (sp (K w.params)))
    (hi : importsNone q = true) (hsp : ∀ (K : PySem.W.Frag) (H : Hp) (a : Addr) (ns : List Int), ns.length ≤ n → Only H → SqL K H a (ns.map V.int) → sp K [.ref a] H (fun v _ => v = .bl true) fun _ _ _ => False) :
    PySem.W.WalkO q loose XP YP l.row.toRowW d [] (fun f vs => PySem.call f vs) := by
  apply Att.attach_call hn hdf
  intro w s₀ s₁ mg mb fa o pm cd doc a vs ns G Y ho hd hcd hmg hobj hints hlen hg
  have KX := hY w _ Y
  exact law_end KX G.T.g G.T.b G.T.builtins G.T.nolimit hg hobj hints (Nat.le_trans hlen hn2) hr (sq := True) (fun _ => let ⟨mm, z, _⟩ := (G.T.seer hi).mods; ⟨mm, z⟩) (fun base a1 a2 a3 => F w mg fa _ KX G.T.g hmg base a1 a2 (a3 trivial)) (fun H hO hS => hsp _ H a ns hlen hO hS)
end Mi

/-! readings: unfolded where they are applied; the ledger -/
namespace Mi
open PySem PySem.Spec PyProof.Rows L2

section
variable {D : Ends} {σ : L2.St} {H : Hp} {Q : VK} {R : Bool → Hp → Prop} {G : List V → Hp → Prop} {J : L2.St → Hp → Prop} {t u : TS} {te tf tx : TE} {tt tu : TT} {ta tr : TA} {g : TG} {K : PySem.W.Frag}
theorem a_seq : tSeq t u D σ H = t { D with nx := u D } σ H := rfl
theorem a_next : tNext D σ H = D.nx σ H := rfl
theorem a_asg : tAsg te g D σ H = te σ H fun x H1 => g x σ H1 D.nx := rfl
theorem a_name {i : Nat} {v : V} : gName i v σ H J = J (σ.set i (some v)) H := rfl
theorem a_var {i : Nat} : tVar i σ H Q = ∃ v, σ[i]? = some (some v) ∧ Q v H := rfl
theorem a_c {v : V} : tC v σ H Q = Q v H := rfl
theorem a_op {r : R2} : tOp r te tf σ H Q = te σ H fun x H1 => tf σ H1 fun y H2 => r x y H2 Q := rfl
theorem a_un {r : V → Hp → VK → Prop} : tUn r te σ H Q = te σ H fun x H1 => r x H1 Q := rfl
theorem a_rI {C : Int → Int → Prop} {f : Int → Int → V} {x y : V} : rI C f x y H Q = ∃ i j, x = .int i ∧ y = .int j ∧ C i j ∧ Q (f i j) H := rfl
theorem a_rI0 {f : Int → Int → V} {x y : V} : rI0 f x y H Q = ∃ i j, x = .int i ∧ y = .int j ∧ Q (f i j) H := rfl
theorem a_rU {f : Int → V} {x : V} : rU f x H Q = ∃ i, x = .int i ∧ Q (f i) H := rfl
theorem a_ret : tRet te D σ H = te σ H D.rt := rfl
theorem a_retN : tRetN D σ H = D.rt .non H := rfl
theorem a_ifS : tIfS tt t u D σ H = tt σ H fun b H1 => if b = true then t D σ H1 else u D σ H1 := rfl
theorem a_drop : tDrop te D σ H = te σ H fun _ H1 => D.nx σ H1 := rfl
theorem a_aug {i : Nat} {ti : TIp} : tAug i te ti D σ H = ∃ x, σ[i]? = some (some x) ∧ te σ H fun y H1 => ti x y H1 fun z H2 => D.nx (σ.set i (some z)) H2 := rfl
theorem a_ipI {f : Int → Int → Int} {x y : V} : ipI f x y H Q = ∃ i j, x = .int i ∧ y = .int j ∧ Q (.int (f i j)) H := rfl
theorem a_test : tTest te σ H R = te σ H fun x H' => ∃ k, x = .bl k ∧ R k H' := rfl
theorem a_B : tB te σ H R = te σ H fun x H' => ∃ k, x = .bl k ∧ R k H' := rfl
theorem a_and : tAnd tt tu σ H R = tt σ H fun c H1 => if c = true then tu σ H1 R else R false H1 := rfl
theorem a_or : tOr tt tu σ H R = tt σ H fun c H1 => if c = true then R true H1 else tu σ H1 R := rfl
theorem a_not : tNot tt σ H R = tt σ H fun c H1 => R (!c) H1 := rfl
theorem a_andV : tAndV te tf σ H Q = te σ H fun x H1 => ∃ c, x = .bl c ∧ if c = true then tf σ H1 Q else Q (.bl false) H1 := rfl
theorem a_orV : tOrV te tf σ H Q = te σ H fun x H1 => ∃ c, x = .bl c ∧ if c = true then Q (.bl true) H1 else tf σ H1 Q := rfl
theorem a_notV : tNotV te σ H Q = te σ H fun x H1 => ∃ c, x = .bl c ∧ Q (.bl (!c)) H1 := rfl
theorem a_ifE : tIf tt te tf σ H Q = tt σ H fun c H1 => if c = true then te σ H1 Q else tf σ H1 Q := rfl
theorem a_nil : tNil σ H G = G [] H := rfl
theorem a_cons : tCons te tr σ H G = te σ H fun x H1 => tr σ H1 fun xs H2 => G (x :: xs) H2 := rfl
theorem a_lst : tLst ta σ H Q = ta σ H fun xs H1 => xs.length ≤ sizeLine ∧ ∀ p, H1 p = none → Q (.ref p) (upd H1 p (.lst xs)) := rfl
theorem a_tup : tTup ta σ H Q = ta σ H fun xs H1 => xs.length ≤ sizeLine ∧ ∀ p, H1 p = none → Q (.ref p) (upd H1 p (.tup xs)) := rfl
theorem a_cb {r : List V → Hp → VK → Prop} : tCB r ta σ H Q = ta σ H fun vs H1 => r vs H1 Q := rfl
theorem a_go {sp : Sp} {E : L2.St → XK} : tGo sp E ta σ H Q = ta σ H fun vs H1 => sp vs H1 Q (E σ) := rfl
theorem a_bm {T : String} {r : V → List V → Hp → VK → Prop} : tBM K T r te ta σ H Q = te σ H fun x H1 => tyV K T x H1 ∧ ta σ H1 fun xs H2 => r x xs H2 Q := rfl
theorem a_bm0 {T : String} {r : V → List V → Hp → VK → Prop} : tBM0 K T r te σ H Q = te σ H fun x H1 => tyV K T x H1 ∧ r x [] H1 Q := rfl
theorem a_sl {r : V → Option Int → Option Int → Hp → VK → Prop} {tl th : TO} : tSl r te tl th σ H Q = te σ H fun x H1 => tl σ H1 fun l H2 => th σ H2 fun u H3 => r x l u H3 Q := rfl
theorem a_po {S : Option Int → Hp → Prop} : tPart te σ H S = te σ H fun x H1 => ∃ i, x = .int i ∧ S (some i) H1 := rfl
theorem a_pn {S : Option Int → Hp → Prop} : tNoPart σ H S = S none H := rfl
theorem a_gsub {s : TSet} {v : V} : gSub te tf s v σ H J = te σ H fun o H1 => tf σ H1 fun i H2 => s o i v H2 fun H3 => J σ H3 := rfl
theorem a_gnil {vs : List V} : gNil vs σ H J = (vs = [] ∧ J σ H) := rfl
theorem a_gcons {gs : TGs} {vs : List V} : gCons g gs vs σ H J = ∃ v r, vs = v :: r ∧ g v σ H fun σ' H' => gs r σ' H' J := rfl
theorem a_gtup {n : Nat} {gs : TGs} {v : V} : gTup K n gs v σ H J = ∃ a xs, v = .ref a ∧ SqT K H a xs ∧ xs.length = n ∧ gs xs σ H J := rfl
theorem a_chain {r r' : R2} : tChain r r' te tf tx σ H Q = te σ H fun x H1 => tf σ H1 fun y H2 => r x y H2 fun z H3 => ∃ k, z = .bl k ∧ (if k = true then tx σ H3 fun w' H4 => r' y w' H4 Q else Q (.bl false) H3) := rfl
theorem a_eq {x y : V} : rEq x y H Q = (scal x y = true ∧ Q (.bl (decide (x = y))) H) := rfl
theorem a_ne {x y : V} : rNe x y H Q = (scal x y = true ∧ Q (.bl (!decide (x = y))) H) := rfl
theorem a_yes : tYes σ H R = R true H := rfl
theorem a_revL : tRevL K te σ H Q = te σ H fun x H1 => ∃ a xs, x = .ref a ∧ SqL K H1 a xs ∧ ∀ p, H1 p = none → Q (.ref p) (upd H1 p (.lst xs.reverse)) := rfl
theorem a_slL {x : V} {lo hi : Option Int} : rSlL K x lo hi H Q = ∃ a xs, x = .ref a ∧ SqL K H a xs ∧ ∀ p, H p = none → Q (.ref p) (upd H p (.lst (cutV xs lo hi))) := rfl
theorem a_ixL {x y : V} : rIxL K x y H Q = ∃ p xs i v, x = .ref p ∧ y = .int i ∧ SqL K H p xs ∧ atI xs i = some v ∧ Q v H := rfl
theorem a_ixT {x y : V} : rIxT K x y H Q = ∃ p xs i v, x = .ref p ∧ y = .int i ∧ SqT K H p xs ∧ atI xs i = some v ∧ Q v H := rfl
theorem a_append {x : V} {vs : List V} : rAppend x vs H Q = ∃ l xs y, x = .ref l ∧ vs = [y] ∧ H l = some (.lst xs) ∧ xs.length < sizeLine ∧ Q .non (upd H l (.lst (xs ++ [y]))) := rfl
theorem a_tyL {p : Addr} : tyV K "list" (.ref p) H = tyV K "list" (.ref p) H := rfl
theorem a_setL {o i v : V} {S : Hp → Prop} : rSetL o i v H S = ∃ p xs k j, o = .ref p ∧ i = .int k ∧ H p = some (.lst xs) ∧ ixN xs.length k = some j ∧ S (upd H p (.lst (xs.set j v))) := rfl
theorem a_cat {x y : V} : rCat x y H Q = ∃ l b xs zs, x = .ref l ∧ y = .ref b ∧ H l = some (.lst xs) ∧ H b = some (.lst zs) ∧ xs.length + zs.length ≤ sizeLine ∧ ∀ p, H p = none → Q (.ref p) (upd H p (.lst (xs ++ zs))) := rfl
end
end Mi

/-! the ledger, the loops -/
namespace Mi
open PySem PySem.Spec PyProof.Rows L2

/-- the heap without one address -/
def rmv (H : Hp) (a : Addr) : Hp := fun b => if b = a then none else H b
theorem rmv_same {H : Hp} {a : Addr} : rmv H a a = none := if_pos rfl
theorem rmv_ne {H : Hp} {a b : Addr} (h : b ≠ a) : rmv H a b = H b := if_neg h
theorem rmv_some {H : Hp} {a b : Addr} {o : HO} (h : rmv H a b = some o) : b ≠ a ∧ H b = some o := by
  by_cases e : b = a
  · subst e
    rw [rmv_same] at h
    cases h
  · rw [rmv_ne e] at h
    exact ⟨e, h⟩

/-- what stood in B stands in H, and beside it the objects of F, all apart -/
structure Led (B : Hp) (F : List (Addr × HO)) (H : Hp) : Prop where
  base : ∀ b o, B b = some o → H b = some o
  own : ∀ x ∈ F, H x.1 = some x.2 ∧ B x.1 = none
  nd : (F.map Prod.fst).Nodup

section
variable {B H H' : Hp} {F G : List (Addr × HO)} {p a : Addr} {o o' : HO} {K : PySem.W.Frag}
theorem Led.refl (H : Hp) : Led H [] H := ⟨fun _ _ h => h, fun _ h => (nomatch h), List.nodup_nil⟩
theorem Led.get (L : Led B F H) (i : Nat) (h : F[i]? = some (p, o)) : H p = some o := (L.own _ (List.mem_of_getElem? h)).1
theorem Led.fresh (L : Led B F H) (i : Nat) (h : F[i]? = some (p, o)) : B p = none := (L.own _ (List.mem_of_getElem? h)).2
theorem Led.nob (L : Led B F H) (h : H p = none) : B p = none := by
  cases e : B p with
  | none => rfl
  | some o =>
    rw [L.base p o e] at h
    cases h
theorem Led.nof (L : Led B F H) (h : H p = none) : p ∉ F.map Prod.fst := by
  intro m
  obtain ⟨x, hx, e⟩ := List.mem_map.mp m
  subst e
  rw [(L.own x hx).1] at h
  cases h
theorem Led.new (L : Led B F H) (h : H p = none) : Led B ((p, o) :: F) (upd H p o) := by
  refine ⟨fun b u e => ?_, fun x hx => ?_, ?_⟩
  · rw [upd_ne (ne_of_none (L.base b u e) h)]
    exact L.base b u e
  · rcases List.mem_cons.mp hx with e | e
    · subst e
      exact ⟨upd_same, L.nob h⟩
    · obtain ⟨h1, h2⟩ := L.own x e
      rw [upd_ne (ne_of_none h1 h)]
      exact ⟨h1, h2⟩
  · rw [List.map_cons, List.nodup_cons]
    exact ⟨L.nof h, L.nd⟩
theorem Led.tail {x : Addr × HO} (L : Led B (x :: F) H) : Led B F H :=
  ⟨L.base, fun y hy => L.own y (List.mem_cons_of_mem _ hy), (List.nodup_cons.mp (by have := L.nd; rwa [List.map_cons] at this)).2⟩
theorem Led.sub (L : Led B F H) (h : List.Sublist G F) : Led B G H :=
  ⟨L.base, fun y hy => L.own y (h.subset hy), (h.map Prod.fst).nodup L.nd⟩
theorem Led.none (L : Led B F H) : Led B [] H := L.sub (List.nil_sublist _)
theorem Led.one (L : Led B F H) (i : Nat) (h : F[i]? = some (p, o)) : Led B [(p, o)] H :=
  L.sub (List.singleton_sublist.mpr (List.mem_of_getElem? h))
theorem nodup_set {l : List (Addr × HO)} : ∀ {i : Nat}, l[i]? = some (p, o) → (l.set i (p, o')).map Prod.fst = l.map Prod.fst := by
  induction l with
  | nil => intro i h; simp at h
  | cons x l ih =>
    intro i h
    cases i with
    | zero =>
      rw [List.getElem?_cons_zero] at h
      cases h
      rfl
    | succ i =>
      rw [List.getElem?_cons_succ] at h
      rw [List.set_cons_succ, List.map_cons, List.map_cons, ih h]
theorem mem_set_ne {l : List (Addr × HO)} (nd : (l.map Prod.fst).Nodup) : ∀ {i : Nat}, l[i]? = some (p, o) → ∀ x ∈ l.set i (p, o'), x = (p, o') ∨ (x ∈ l ∧ x.1 ≠ p) := by
  induction l with
  | nil => intro i h; simp at h
  | cons y l ih =>
    intro i h x hx
    rw [List.map_cons, List.nodup_cons] at nd
    cases i with
    | zero =>
      rw [List.getElem?_cons_zero] at h
      cases h
      rw [List.set_cons_zero] at hx
      rcases List.mem_cons.mp hx with e | e
      · exact Or.inl e
      · exact Or.inr ⟨List.mem_cons_of_mem _ e, fun z => nd.1 (z ▸ List.mem_map.mpr ⟨x, e, rfl⟩)⟩
    | succ i =>
      rw [List.getElem?_cons_succ] at h
      rw [List.set_cons_succ] at hx
      rcases List.mem_cons.mp hx with e | e
      · subst e
        exact Or.inr ⟨List.mem_cons_self, fun z => nd.1 (z ▸ List.mem_map.mpr ⟨_, List.mem_of_getElem? h, rfl⟩)⟩
      · rcases ih nd.2 h x e with q | q
        · exact Or.inl q
        · exact Or.inr ⟨List.mem_cons_of_mem _ q.1, q.2⟩
theorem Led.put (L : Led B F H) (i : Nat) (h : F[i]? = some (p, o)) : Led B (F.set i (p, o')) (upd H p o') := by
  refine ⟨fun b u e => ?_, fun x hx => ?_, ?_⟩
  · rw [upd_ne (fun z => by rw [z, L.fresh i h] at e; cases e)]
    exact L.base b u e
  · rcases mem_set_ne L.nd h x hx with e | ⟨e, n⟩
    · subst e
      exact ⟨upd_same, L.fresh i h⟩
    · rw [upd_ne n]
      exact L.own x e
  · rw [nodup_set h]
    exact L.nd
/-- behind a step that keeps all -/
theorem Led.step (L : Led B F H) (M : Led H G H') : Led B (G ++ F) H' := by
  refine ⟨fun b u e => M.base b u (L.base b u e), fun x hx => ?_, ?_⟩
  · rcases List.mem_append.mp hx with e | e
    · exact ⟨(M.own x e).1, L.nob (M.own x e).2⟩
    · exact ⟨M.base _ _ (L.own x e).1, (L.own x e).2⟩
  · rw [List.map_append, List.nodup_append]
    refine ⟨M.nd, L.nd, fun u hu v hv e => ?_⟩
    subst e
    obtain ⟨x, hx, e⟩ := List.mem_map.mp hu
    subst e
    exact L.nof (M.own x hx).2 hv
theorem Led.step0 (L : Led B F H) (M : Led H [] H') : Led B F H' := L.step M
/-- behind a step that changes the i-th object -/
theorem Led.own1 (h : H a = some o) : Led (rmv H a) [(a, o)] H :=
  ⟨fun b u e => (rmv_some e).2, fun x hx => by
    cases List.mem_singleton.mp hx
    exact ⟨h, rmv_same⟩, by simp⟩
theorem Led.stepOwn (L : Led B F H) (i : Nat) (h : F[i]? = some (a, o)) (M : Led (rmv H a) (G ++ [(a, o')]) H') : Led B (G ++ F.set i (a, o')) H' := by
  have na : B a = Option.none := L.fresh i h
  have nd := M.nd
  rw [List.map_append, List.nodup_append] at nd
  refine ⟨fun b u e => ?_, fun x hx => ?_, ?_⟩
  · have nb : b ≠ a := fun z => by
      rw [z, na] at e
      cases e
    exact M.base b u (by rw [rmv_ne nb]; exact L.base b u e)
  · rcases List.mem_append.mp hx with e | e
    · obtain ⟨h1, h2⟩ := M.own x (List.mem_append.mpr (Or.inl e))
      have ne : x.1 ≠ a := nd.2.2 x.1 (List.mem_map.mpr ⟨x, e, rfl⟩) a (by simp)
      rw [rmv_ne ne] at h2
      exact ⟨h1, L.nob h2⟩
    · rcases mem_set_ne L.nd h x e with e | ⟨e, n⟩
      · subst e
        exact ⟨(M.own _ (List.mem_append.mpr (Or.inr (by simp)))).1, na⟩
      · obtain ⟨h1, h2⟩ := L.own x e
        exact ⟨M.base _ _ (by rw [rmv_ne n]; exact h1), h2⟩
  · rw [List.map_append, List.nodup_append, nodup_set h]
    refine ⟨nd.1, L.nd, fun u hu v hv e => ?_⟩
    subst e
    obtain ⟨x, hx, e⟩ := List.mem_map.mp hu
    subst e
    obtain ⟨h1, h2⟩ := M.own x (List.mem_append.mpr (Or.inl hx))
    have ne : x.1 ≠ a := nd.2.2 x.1 hu a (by simp)
    rw [rmv_ne ne] at h2
    exact L.nof h2 hv
/-- from now on an object stands still -/
theorem Led.still (L : Led B ((p, o) :: F) H) : Led (upd B p o) F H := by
  have nd := L.nd
  rw [List.map_cons, List.nodup_cons] at nd
  refine ⟨fun b u e => ?_, fun x hx => ?_, nd.2⟩
  · by_cases z : b = p
    · subst z
      rw [upd_same] at e
      cases e
      exact (L.own (b, o) List.mem_cons_self).1
    · rw [upd_ne z] at e
      exact L.base b u e
  · obtain ⟨h1, h2⟩ := L.own x (List.mem_cons_of_mem _ hx)
    refine ⟨h1, ?_⟩
    have ne : x.1 ≠ p := fun z => nd.1 (by
      show p ∈ F.map Prod.fst
      rw [← z]
      exact List.mem_map.mpr ⟨x, hx, rfl⟩)
    rw [upd_ne ne]
    exact h2
theorem Led.same (L : Led B F H) : Same B H := L.base
theorem Led.sq (L : Led B F H) {xs : List V} (h : SqL K B a xs) : SqL K H a xs := L.same.seq h
theorem Led.st (L : Led B F H) {xs : List V} (h : SqT K B a xs) : SqT K H a xs := by
  rcases h with (h | ⟨o, h⟩) | h
  · exact .inl (.inl (L.base _ _ h))
  · exact .inl (.inr ⟨o, L.base _ _ h⟩)
  · exact .inr h
theorem Led.sqI (L : Led B F H) (i : Nat) {xs : List V} (h : F[i]? = some (p, .lst xs)) : SqL K H p xs := SqL.of (L.get i h)
theorem Led.stI (L : Led B F H) (i : Nat) {xs : List V} (h : F[i]? = some (p, .tup xs)) : SqT K H p xs := SqT.of (L.get i h)
mutual
theorem Led.dp (L : Led B F H) : ∀ {v : V} {d : PyData}, Dp K B v d → Dp K H v d
  | _, _, .non => .non
  | _, _, .bl b => .bl b
  | _, _, .int i => .int i
  | _, _, .str x => .str x
  | _, _, .lst h a => .lst (L.sq h) (L.dpAll a)
  | _, _, .tup h a => .tup (L.st h) (L.dpAll a)
theorem Led.dpAll (L : Led B F H) : ∀ {vs : List V} {ds : List PyData}, DpAll K B vs ds → DpAll K H vs ds
  | _, _, .nil => .nil
  | _, _, .cons h a => .cons (L.dp h) (L.dpAll a)
end
end

/-! ### loops -/
def ForG (J : It) (g : TG) (tb : TS) (D : Ends) (σ : L2.St) (H : Hp) : Prop := ∃ W : Nat → Nat → L2.St → Hp → Prop, (∃ m, W 0 m σ H) ∧ ∀ i m σ H, W i m σ H →
  (J.stop i H ∧ D.nx σ H) ∨ (J.go i H ∧ ∃ N : L2.St → Hp → Prop, (∀ σ' H', N σ' H' → ∃ m', m' < m ∧ W (i + 1) m' σ' H') ∧ ∀ x H', J.yld i H x H' → g x σ H' fun σ2 H2 => tb { D with nx := N, ct := N, bk := D.nx } σ2 H2)
def LcG (J : It) (g : TG) (tt : TT) (te : TE) (vs : List Nat) (σ : L2.St) (D : Addr) (Qd : Hp → Prop) (H1 : Hp) : Prop := ∃ W : Nat → Nat → Hp → Prop, (∃ m, W 0 m (upd H1 D (.lst []))) ∧ ∀ i m H, W i m H →
      (J.stop i H ∧ Qd H) ∨ (J.go i H ∧ ∃ Nx : Hp → Prop, (∀ H', Nx H' → ∃ m', m' < m ∧ W (i + 1) m' H') ∧ ∀ x H', J.yld i H x H' → g x (wipe σ vs) H' fun σ2 H2 => wipe σ2 vs = wipe σ vs ∧ tt σ2 H2 fun b H3 =>
        if b = true then te σ2 H3 fun y H4 => ∃ acc, H4 D = some (.lst acc) ∧ acc.length < sizeLine ∧ Nx (upd H4 D (.lst (acc ++ [y]))) else Nx H3)
def WhB (tb : TS) (D : Ends) (Pv : Nat → L2.St → Hp → Prop) (m : Nat) (σ : L2.St) (H : Hp) : Prop := ∃ N : L2.St → Hp → Prop, (∀ σ' H', N σ' H' → ∃ m', m' < m ∧ Pv m' σ' H') ∧ tb { D with nx := N, ct := N, bk := D.nx } σ H
section
variable {D : Ends} {σ : L2.St} {H : Hp} {Q : VK} {tb : TS} {te : TE} {tt : TT} {ta : TA} {g : TG} {wi : TI} {K : PySem.W.Frag} {R : It → Hp → Prop} {vs : List Nat}
theorem a_for : tFor wi g tb D σ H = wi σ H fun J H1 => ForG J g tb D σ H1 := rfl
theorem a_lc : tLc wi g tt te vs σ H Q = wi σ H fun J H1 => ∀ P, H1 P = none → LcG J g tt te vs σ P (fun H => Q (.ref P) H) H1 := rfl
theorem a_iL : iList K te σ H R = te σ H fun x H1 => ∃ a, x = .ref a ∧ (∃ xs, SqL K H1 a xs) ∧ R (Itl K a) H1 := rfl
theorem a_iT : iTup K te σ H R = te σ H fun x H1 => ∃ a, x = .ref a ∧ (∃ xs, SqT K H1 a xs) ∧ R (Itt K a) H1 := rfl
theorem a_iR1 : iRng1 ta σ H R = ta σ H fun vs H1 => ∃ j : Int, vs = [.int j] ∧ -(2 ^ 62) ≤ j ∧ j < 2 ^ 62 ∧ R (Itr 0 j.toNat) H1 := rfl
theorem a_iR2 : iRng2 ta σ H R = ta σ H fun vs H1 => ∃ i j : Int, vs = [.int i, .int j] ∧ (-(2 ^ 62) ≤ i ∧ i < 2 ^ 62 ∧ -(2 ^ 62) ≤ j ∧ j < 2 ^ 62) ∧ R (Itr i (j - i).toNat) H1 := rfl
theorem a_iE : iEnum K ta σ H R = ta σ H fun vs H1 => ∃ a xs, vs = [.ref a] ∧ SqL K H1 a xs ∧ R (Ite K a) H1 := rfl
theorem a_iZ : iZip K ta σ H R = ta σ H fun vs H1 => ∃ a b xs ys, vs = [.ref a, .ref b] ∧ SqL K H1 a xs ∧ SqL K H1 b ys ∧ R (Itz K a b) H1 := rfl
theorem a_iS : iStr te σ H R = te σ H fun v H1 => ∃ x, v = .str x ∧ R (Its x) H1 := rfl
theorem whl {c : TT} (Pv : Nat → L2.St → Hp → Prop) (m : Nat) (h0 : Pv m σ H) (hs : ∀ N : Nat → L2.St → Hp → Prop, (∀ m σ H, Pv m σ H → N m σ H) → ∀ m σ H, Pv m σ H → c σ H fun b H1 => if b = true then WhB tb D N m σ H1 else D.nx σ H1) : tWhile c tb D σ H := ⟨Pv, ⟨m, h0⟩, hs Pv fun _ _ _ h => h⟩
theorem whb {Pv : Nat → L2.St → Hp → Prop} {m : Nat} (h : tb { D with nx := fun σ' H' => ∃ m', m' < m ∧ Pv m' σ' H', ct := fun σ' H' => ∃ m', m' < m ∧ Pv m' σ' H', bk := D.nx } σ H) : WhB tb D Pv m σ H := ⟨_, fun _ _ h => h, h⟩
theorem for_g {J : It} {n : Nat} {G : Hp → Prop} {Y : Nat → Hp → V → Hp → Prop} (w : Walk J n G Y) (Pv : Nat → L2.St → Hp → Prop) (h0 : Pv 0 σ H) (hG : ∀ i σ H, i ≤ n → Pv i σ H → G H)
    (hs : ∀ i x σ H H', i < n → Pv i σ H → Y i H x H' → g x σ H' fun σ2 H2 => tb { D with nx := Pv (i + 1), ct := Pv (i + 1), bk := D.nx } σ2 H2) (hd : ∀ σ H, Pv n σ H → D.nx σ H) : ForG J g tb D σ H := for_it w Pv h0 hG hs hd
/-- over a list -/
theorem for_l {a : Addr} {xs : List V} {j : Nat} (Pv : Nat → L2.St → Hp → Prop) (h0 : Pv 0 σ H) (hG : ∀ i σ H, i ≤ xs.length → Pv i σ H → SqL K H a xs)
    (hs : ∀ N : Nat → L2.St → Hp → Prop, (∀ i σ H, Pv i σ H → N i σ H) → ∀ i x σ H, xs[i]? = some x → Pv i σ H → tb { D with nx := N (i + 1), ct := N (i + 1), bk := D.nx } (σ.set j (some x)) H) (hd : ∀ σ H, Pv xs.length σ H → D.nx σ H) : ForG (Itl K a) (gName j) tb D σ H :=
  for_g walk_list Pv h0 hG (fun i x σ H H' hi p y => by
    obtain ⟨e, y⟩ := y
    subst e
    exact hs Pv (fun _ _ _ h => h) i x σ _ y p) hd
/-- over a range -/
theorem for_r {lo : Int} {n j : Nat} (Pv : Nat → L2.St → Hp → Prop) (h0 : Pv 0 σ H)
    (hs : ∀ N : Nat → L2.St → Hp → Prop, (∀ i σ H, Pv i σ H → N i σ H) → ∀ (i : Nat) σ H, i < n → Pv i σ H → tb { D with nx := N (i + 1), ct := N (i + 1), bk := D.nx } (σ.set j (some (.int (lo + i)))) H) (hd : ∀ σ H, Pv n σ H → D.nx σ H) : ForG (Itr lo n) (gName j) tb D σ H :=
  for_g walk_range Pv h0 (fun _ _ _ _ _ => trivial) (fun i x σ H H' hi p y => by
    obtain ⟨e, y⟩ := y
    subst e
    subst y
    exact hs Pv (fun _ _ _ h => h) i σ _ hi p) hd
abbrev g2 (K : PySem.W.Frag) (i j : Nat) : TG := gTup K 2 (gCons (gName i) (gCons (gName j) gNil))
theorem pair_in {x y : V} {T : Addr} {i j : Nat} {J : L2.St → Hp → Prop} (h : H T = none) (q : ∀ H', Led H [(T, .tup [x, y])] H' → J ((σ.set i (some x)).set j (some y)) H') : g2 K i j (.ref T) σ (upd H T (.tup [x, y])) J :=
  ⟨T, [x, y], rfl, SqT.of upd_same, rfl, x, [y], rfl, y, [], rfl, rfl, q _ ((Led.refl H).new h)⟩
/-- over enumerate(list) -/
theorem for_e {a : Addr} {xs : List V} {j k : Nat} (Pv : Nat → L2.St → Hp → Prop) (h0 : Pv 0 σ H) (hG : ∀ i σ H, i ≤ xs.length → Pv i σ H → SqL K H a xs)
    (hs : ∀ N : Nat → L2.St → Hp → Prop, (∀ i σ H, Pv i σ H → N i σ H) → ∀ (i : Nat) x σ H H', xs[i]? = some x → Pv i σ H → Led H [] H' → tb { D with nx := N (i + 1), ct := N (i + 1), bk := D.nx } ((σ.set j (some (.int (i : Nat)))).set k (some x)) H') (hd : ∀ σ H, Pv xs.length σ H → D.nx σ H) : ForG (Ite K a) (g2 K j k) tb D σ H :=
  for_g walk_enum Pv h0 hG (fun i v σ H H' hi p y => by
    obtain ⟨T, x, z, e, hT, e2, hx, hz⟩ := y
    subst e
    subst e2
    cases hx
    exact pair_in hT fun H' L => hs Pv (fun _ _ _ h => h) i z σ H H' hz p L.none) hd
/-- over zip(list, list) -/
theorem for_z {a b : Addr} {xs ys : List V} {j k : Nat} (Pv : Nat → L2.St → Hp → Prop) (h0 : Pv 0 σ H) (hG : ∀ i σ H, Pv i σ H → SqL K H a xs ∧ SqL K H b ys)
    (hs : ∀ N : Nat → L2.St → Hp → Prop, (∀ i σ H, Pv i σ H → N i σ H) → ∀ (i : Nat) x y σ H H', xs[i]? = some x → ys[i]? = some y → Pv i σ H → Led H [] H' → tb { D with nx := N (i + 1), ct := N (i + 1), bk := D.nx } ((σ.set j (some x)).set k (some y)) H') (hd : ∀ σ H, Pv (min xs.length ys.length) σ H → D.nx σ H) : ForG (Itz K a b) (g2 K j k) tb D σ H :=
  for_g (walk_zip rfl) Pv h0 (fun i σ H _ p => hG i σ H p) (fun i v σ H H' hi p y => by
    obtain ⟨T, x, z, e, hT, e2, hx, hz⟩ := y
    subst e
    subst e2
    exact pair_in hT fun H' L => hs Pv (fun _ _ _ h => h) i x z σ H H' hx hz p L.none) hd

/-- the ways behind an if are joined at Mid -/
theorem cut_ {t u : TS} (Mid : L2.St → Hp → Prop) (h1 : ∀ M : L2.St → Hp → Prop, (∀ σ H, Mid σ H → M σ H) → t { D with nx := M } σ H) (h2 : ∀ σ H, Mid σ H → u D σ H) : Evl.tCut t u D σ H := ⟨Mid, h1 Mid fun _ _ h => h, h2⟩
/-- over a list of pairs -/
theorem for_lp {a : Addr} {as : List Addr} {xs ys : List V} {j k : Nat} (hl : xs.length = as.length) (hl2 : ys.length = as.length) (Pv : Nat → L2.St → Hp → Prop) (h0 : Pv 0 σ H)
    (hG : ∀ i σ H, Pv i σ H → SqL K H a (as.map V.ref) ∧ ∀ (i : Nat) b x y, as[i]? = some b → xs[i]? = some x → ys[i]? = some y → SqT K H b [x, y])
    (hs : ∀ N : Nat → L2.St → Hp → Prop, (∀ i σ H, Pv i σ H → N i σ H) → ∀ (i : Nat) x y σ H, xs[i]? = some x → ys[i]? = some y → Pv i σ H → tb { D with nx := N (i + 1), ct := N (i + 1), bk := D.nx } ((σ.set j (some x)).set k (some y)) H)
    (hd : ∀ σ H, Pv as.length σ H → D.nx σ H) : ForG (Itl K a) (g2 K j k) tb D σ H :=
  for_g walk_list Pv h0 (fun i σ H _ p => (hG i σ H p).1) (fun i x σ H H' hi p y => by
    obtain ⟨e, y⟩ := y
    subst e
    rw [List.length_map] at hi
    rw [List.getElem?_map, List.getElem?_eq_getElem hi] at y
    cases y
    have h1 : xs[i]? = some (xs[i]'(by omega)) := List.getElem?_eq_getElem _
    have h2 : ys[i]? = some (ys[i]'(by omega)) := List.getElem?_eq_getElem _
    exact ⟨as[i], _, rfl, (hG i σ _ p).2 i _ _ _ (List.getElem?_eq_getElem hi) h1 h2, rfl, _, _, rfl, _, _, rfl, rfl, hs Pv (fun _ _ _ h => h) i _ _ σ _ h1 h2 p⟩) (fun σ H p => hd σ H (by rw [List.length_map] at p; exact p))

/-! ### comprehensions: acc the list so far; Pv by the turn, the list and the heap in which it stands -/
theorem lc_g {J : It} {n : Nat} {G : Hp → Prop} {Y : Nat → Hp → V → Hp → Prop} (w : Walk J n G Y) {P : Addr} {Qd : Hp → Prop} (Pv : Nat → Hp → Prop) (h0 : Pv 0 (upd H P (.lst []))) (hG : ∀ i H, i ≤ n → Pv i H → G H)
    (hs : ∀ i x H H', i < n → Pv i H → Y i H x H' → g x (wipe σ vs) H' fun σ2 H2 => wipe σ2 vs = wipe σ vs ∧ tt σ2 H2 fun b H3 =>
      if b = true then te σ2 H3 fun y H4 => ∃ acc, H4 P = some (.lst acc) ∧ acc.length < sizeLine ∧ Pv (i + 1) (upd H4 P (.lst (acc ++ [y]))) else Pv (i + 1) H3) (hd : ∀ H, Pv n H → Qd H) : LcG J g tt te vs σ P Qd H := lc_it w Pv h0 hG hs hd
section
variable {B : Hp} {F : List (Addr × HO)}
/-- the turn's end: the item y goes to the list -/
def LcY (B : Hp) (F : List (Addr × HO)) (P : Addr) (acc : List V) (y : V) (H4 : Hp) : Prop := ∃ a, H4 P = some (.lst a) ∧ a.length < sizeLine ∧ Led B ((P, .lst acc) :: F) (upd H4 P (.lst (a ++ [y])))
theorem lc_y {P : Addr} {acc acc' : List V} {y : V} {H4 : Hp} (L : Led B ((P, .lst acc) :: F) H4) (e : acc' = acc ++ [y]) (hl : acc.length < sizeLine) : LcY B F P acc' y H4 := by
  subst e
  exact ⟨acc, L.get 0 rfl, hl, L.put 0 rfl⟩
theorem lc_n {P : Addr} {acc acc' : List V} {H4 : Hp} (L : Led B ((P, .lst acc) :: F) H4) (e : acc' = acc) : Led B ((P, .lst acc') :: F) H4 := by
  subst e
  exact L
/-- acc i: the list ahead of turn i; nothing else changes -/
theorem lc_led {J : It} {n : Nat} {G : Hp → Prop} {Y : Nat → Hp → V → Hp → Prop} (w : Walk J n G Y) {P : Addr} {Qd : Hp → Prop} (L : Led B F H) (hP : H P = none) (acc : Nat → List V) (h0 : acc 0 = []) (hG : ∀ H, Led B F H → G H)
    (hs : ∀ i x H H', i < n → Led B ((P, .lst (acc i)) :: F) H → Y i H x H' → g x (wipe σ vs) H' fun σ2 H2 => wipe σ2 vs = wipe σ vs ∧ tt σ2 H2 fun b H3 =>
      if b = true then te σ2 H3 fun y H4 => LcY B F P (acc (i + 1)) y H4 else Led B ((P, .lst (acc (i + 1))) :: F) H3) (hd : ∀ H', Led B ((P, .lst (acc n)) :: F) H' → Qd H') : LcG J g tt te vs σ P Qd H :=
  lc_g w (fun i H => Led B ((P, .lst (acc i)) :: F) H) (by rw [h0]; exact L.new hP) (fun _ _ _ p => hG _ p.tail) hs hd
/-- over a list at a -/
theorem lc_l {a : Addr} {xs : List V} {j : Nat} {P : Addr} {Qd : Hp → Prop} (L : Led B F H) (hP : H P = none) (hS : ∀ H, Led B F H → SqL K H a xs) (acc : Nat → List V) (h0 : acc 0 = [])
    (hs : ∀ i x H, xs[i]? = some x → Led B ((P, .lst (acc i)) :: F) H → wipe ((wipe σ vs).set j (some x)) vs = wipe σ vs ∧ tt ((wipe σ vs).set j (some x)) H fun b H3 =>
      if b = true then te ((wipe σ vs).set j (some x)) H3 fun y H4 => LcY B F P (acc (i + 1)) y H4 else Led B ((P, .lst (acc (i + 1))) :: F) H3) (hd : ∀ H', Led B ((P, .lst (acc xs.length)) :: F) H' → Qd H') : LcG (Itl K a) (gName j) tt te vs σ P Qd H :=
  lc_led walk_list L hP acc h0 hS (fun i x H H' hi L y => by
    obtain ⟨e, y⟩ := y
    subst e
    exact hs i x _ y L) hd
/-- over a range -/
theorem lc_r {lo : Int} {n j : Nat} {P : Addr} {Qd : Hp → Prop} (L : Led B F H) (hP : H P = none) (acc : Nat → List V) (h0 : acc 0 = [])
    (hs : ∀ (i : Nat) H, i < n → Led B ((P, .lst (acc i)) :: F) H → wipe ((wipe σ vs).set j (some (.int (lo + i)))) vs = wipe σ vs ∧ tt ((wipe σ vs).set j (some (.int (lo + i)))) H fun b H3 =>
      if b = true then te ((wipe σ vs).set j (some (.int (lo + i)))) H3 fun y H4 => LcY B F P (acc (i + 1)) y H4 else Led B ((P, .lst (acc (i + 1))) :: F) H3) (hd : ∀ H', Led B ((P, .lst (acc n)) :: F) H' → Qd H') : LcG (Itr lo n) (gName j) tt te vs σ P Qd H :=
  lc_led walk_range L hP acc h0 (fun _ _ => trivial) (fun i x H H' hi L y => by
    obtain ⟨e, y⟩ := y
    subst e
    subst y
    exact hs i _ hi L) hd
/-- over enumerate(list) -/
theorem lc_e {a : Addr} {xs : List V} {j k : Nat} {P : Addr} {Qd : Hp → Prop} (L : Led B F H) (hP : H P = none) (hS : ∀ H, Led B F H → SqL K H a xs) (acc : Nat → List V) (h0 : acc 0 = [])
    (hs : ∀ (i : Nat) x H, xs[i]? = some x → Led B ((P, .lst (acc i)) :: F) H → wipe (((wipe σ vs).set j (some (.int (i : Nat)))).set k (some x)) vs = wipe σ vs ∧ tt (((wipe σ vs).set j (some (.int (i : Nat)))).set k (some x)) H fun b H3 =>
      if b = true then te (((wipe σ vs).set j (some (.int (i : Nat)))).set k (some x)) H3 fun y H4 => LcY B F P (acc (i + 1)) y H4 else Led B ((P, .lst (acc (i + 1))) :: F) H3) (hd : ∀ H', Led B ((P, .lst (acc xs.length)) :: F) H' → Qd H') : LcG (Ite K a) (g2 K j k) tt te vs σ P Qd H :=
  lc_led walk_enum L hP acc h0 hS (fun i v H H' hi L y => by
    obtain ⟨T, x, z, e, hT, e2, hx, hz⟩ := y
    subst e
    subst e2
    cases hx
    exact pair_in hT fun H' M => hs i z H' hz (L.step0 M.none)) hd
/-- over zip -/
theorem lc_z {a b : Addr} {xs ys : List V} {j k : Nat} {P : Addr} {Qd : Hp → Prop} (L : Led B F H) (hP : H P = none) (hS : ∀ H, Led B F H → SqL K H a xs ∧ SqL K H b ys) (acc : Nat → List V) (h0 : acc 0 = [])
    (hs : ∀ (i : Nat) x y H, xs[i]? = some x → ys[i]? = some y → Led B ((P, .lst (acc i)) :: F) H → wipe (((wipe σ vs).set j (some x)).set k (some y)) vs = wipe σ vs ∧ tt (((wipe σ vs).set j (some x)).set k (some y)) H fun b H3 =>
      if b = true then te (((wipe σ vs).set j (some x)).set k (some y)) H3 fun y H4 => LcY B F P (acc (i + 1)) y H4 else Led B ((P, .lst (acc (i + 1))) :: F) H3) (hd : ∀ H', Led B ((P, .lst (acc (min xs.length ys.length))) :: F) H' → Qd H') : LcG (Itz K a b) (g2 K j k) tt te vs σ P Qd H :=
  lc_led (walk_zip rfl) L hP acc h0 hS (fun i v H H' hi L y => by
    obtain ⟨T, x, z, e, hT, e2, hx, hz⟩ := y
    subst e
    subst e2
    exact pair_in hT fun H' M => hs i x z H' hx hz (L.step0 M.none)) hd
end
end
end Mi

/-! list(enumerate(xs)) -/
namespace Mi
open PySem PySem.Spec PyProof.Rows L2

theorem en_len : typeLookup (.type "enumerate") "__len__" = pure none := am_miss_of_fast (by decide +kernel)
theorem en_hint : typeLookup (.type "enumerate") "__length_hint__" = pure none := am_miss_of_fast (by decide +kernel)
section
variable {prog : Program} {w : World} {A : Around} {E : Value → Shared → Prop} {s : Shared}
theorem en_room {r : Addr} {Q : Bool → Shared → Prop} (hT : s.TypeIs (.ref r) "enumerate") (h : Q true s) : wpAny (model prog w) A (Builtin.List.listLengthHint (.ref r)) Q E s := by
  unfold Builtin.List.listLengthHint
  refine wpAny_bind (wpAny_specialOf hT en_len ?_)
  wp_delta
  refine wpAny_ite_split (fun hab => absurd hab (by decide)) (fun _ => ?_)
  refine wpAny_ite_split (fun hab => absurd hab (by decide)) (fun _ => ?_)
  refine wpAny_bind (wpAny_specialOf hT en_hint ?_)
  exact wpAny_pure h

/-- the walk's state: the pair told last may be held -/
structure EnSt (h : Heap) (e it l S : Addr) (items : Array Value) (i : Nat) : Prop where
  hit : h.IsListIter it l i
  hl : h.IsList l items
  hen : (∃ old, IsEnum h e it i old) ∨ ∃ old T f oT, IsEnumHeld h e it i old T f ∧ h.get? T = some oT ∧ T ≠ e ∧ T ≠ it ∧ T ≠ S
/-- the pairs made so far -/
structure EnG (items : Array Value) (lo : Addr) (h : Heap) (as : List Addr) : Prop where
  above : ∀ a ∈ as, lo < a
  pairs : ∀ (j : Nat) (a : Addr), as[j]? = some a → ∃ x t, items[j]? = some x ∧ h.get? a = some { cls := .type "tuple", data := .seq #[.int (j : Nat) t, x] }
  nd : as.Pairwise (· < ·)
theorem EnG.there {items : Array Value} {lo : Addr} {h : Heap} {as : List Addr} (g : EnG items lo h as) {a : Addr} (ha : a ∈ as) : a < h.objs.size := by
  obtain ⟨j, hj⟩ := List.mem_iff_getElem?.mp ha
  obtain ⟨_, _, _, e⟩ := g.pairs j a hj
  exact Heap.lt_size e
theorem en_item {e it l S : Addr} {items : Array Value} {i : Nat} {Q : Option Value → Shared → Prop} (st : EnSt s.heap e it l S items i) (hS : S < s.heap.objs.size) (hei : e ≠ it) (hle : l ≠ e) (hli : l ≠ it) (hi : i < items.size)
    (hQ : ∀ h', EnSt h' e it l S items (i + 1) → h'.get? s.heap.objs.size = some { cls := .type "tuple", data := .seq #[.int i s.toks, items[i]] } → h'.objs.size = s.heap.objs.size + 1 →
      (∀ b o, b ≠ e → b ≠ it → s.heap.get? b = some o → h'.get? b = some o) → Q (some (.ref s.heap.objs.size)) { s with heap := h', toks := s.toks + 1 }) :
    wpAny (model prog w) A (pyNext (.ref e)) Q E s := by
  obtain ⟨hit, hl, hen⟩ := st
  have ex : items[i]? = some items[i] := Array.getElem?_eq_getElem hi
  have ec : ((i + 1 : Nat) : Int) = (i : Int) + 1 := by omega
  have nit : s.heap.objs.size ≠ it := by
    obtain ⟨_, x, _⟩ := hit
    exact Nat.ne_of_gt (Heap.lt_size x)
  rcases hen with ⟨old, he⟩ | ⟨old, T, f, oT, he, hT, r1, r2, r3⟩
  · refine wpAny_pyNext_enum_item he hit hl ex hei fun h' ho hit' hT' hz hk => hQ h' ⟨hit', hl.at fun o x => hk l o hle hli x, Or.inr ?_⟩ hT' hz hk
    exact ⟨_, s.heap.objs.size, false, _, (by rw [ec]; exact ho), hT', Nat.ne_of_gt (Heap.lt_size he), nit, Nat.ne_of_gt hS⟩
  · refine wpAny_pyNext_enum_item_held he hT r1 r2 hit hl ex hei fun h' ho hit' hT' hz hk => hQ h' ⟨hit', hl.at fun o x => hk l o hle hli x, Or.inr ?_⟩ hT' hz hk
    exact ⟨old, T, true, oT, (by rw [ec]; exact ho), hk _ _ r1 r2 hT, r1, r2, r3⟩
theorem en_done {e it l S : Addr} {items : Array Value} {i : Nat} {Q : Option Value → Shared → Prop} (hh : A.handled = none) (st : EnSt s.heap e it l S items i) (hi : items.size ≤ i)
    (hQ : ∀ h', (∀ b o, b ≠ it → s.heap.get? b = some o → h'.get? b = some o) → Q none { s with heap := h' }) : wpAny (model prog w) A (pyNext (.ref e)) Q E s := by
  obtain ⟨hit, hl, hen⟩ := st
  have hx : items[i]? = none := Array.getElem?_eq_none hi
  rcases hen with ⟨old, he⟩ | ⟨old, T, f, oT, he, hT, r1, r2, r3⟩
  · exact wpAny_pyNext_enum_end hh he hit hl hx fun h' hk => hQ h' hk
  · exact wpAny_pyNext_enum_end_held hh he hit hl hx fun h' hk => hQ h' hk
theorem EnSt.keep {h h' : Heap} {e it l S : Addr} {items : Array Value} {i : Nat} (st : EnSt h e it l S items i) (he : e ≠ S) (hi : it ≠ S) (hl : l ≠ S) (hk : ∀ b o, b ≠ S → h.get? b = some o → h'.get? b = some o) : EnSt h' e it l S items i := by
  obtain ⟨a, b, c⟩ := st
  refine ⟨a.at fun o x => hk _ o hi x, b.at fun o x => hk _ o hl x, ?_⟩
  rcases c with ⟨old, z⟩ | ⟨old, T, f, oT, z, hT, r1, r2, r3⟩
  · exact Or.inl ⟨old, hk _ _ he z⟩
  · exact Or.inr ⟨old, T, f, oT, hk _ _ he z, hk _ _ r3 hT, r1, r2, r3⟩
end
section
variable {prog : Program} {w : World} {A : Around} {s : Shared} {R : Result → Shared → Prop}
theorem en_loop {S e it l : Addr} {items : Array Value} (hh : A.handled = none) (hSe : e ≠ S) (hSi : it ≠ S) (hSl : l ≠ S) (hei : e ≠ it) (hle : l ≠ e) (hli : l ≠ it) (hn : items.size ≤ sizeLine) (res : Value) {h₁ : Heap} {lo : Addr} (hlS : S ≤ lo) (hle2 : e ≤ lo) (hli2 : it ≤ lo)
    (hR : ∀ h' tk acc c as, (∀ b o, b ≠ S → b ≠ e → b ≠ it → h₁.get? b = some o → h'.get? b = some o) → h'.get? S = some { cls := .type "list", dict := none, data := .seq acc c, slots := #[] } → as.length = items.size → EnG items lo h' as →
      acc.toList = as.map Value.ref → R (.ok (.ret res)) { s with heap := h', toks := tk }) :
    ∀ (k i : Nat) (h : Heap) (tk c : Nat) (acc : Array Value) (as : List Addr), items.size - i = k → i ≤ items.size → EnSt h e it l S items i → (∀ b o, b ≠ S → b ≠ e → b ≠ it → h₁.get? b = some o → h.get? b = some o) →
      h.get? S = some { cls := .type "list", dict := none, data := .seq acc c, slots := #[] } → acc.toList = as.map Value.ref → as.length = i → EnG items lo h as → lo < h.objs.size →
      codeAny (model prog w) A (.builtin "list.extend.loop" ⟨[.ref S, .ref e, res], []⟩) R { s with heap := h, toks := tk } := by
  intro k
  induction k with
  | zero =>
    intro i h tk c acc as hk hi st hkeep hS hacc hal hG hlo
    apply codeAny_builtin PySem.F.entry_extend_loop
    rw [Around.under_plainId PySem.F.plain_extend_loop _]
    show wpAny _ A.in1 (pyNext (.ref e) >>= _) _ _ _
    refine wpAny_bind (en_done (s := { s with heap := h, toks := tk }) (A := A.in1) hh st (by omega) fun h' he => ?_)
    refine wpAny_pure (hR h' tk acc c as (fun b o h1 h2 h3 z => he b o h3 (hkeep b o h1 h2 h3 z)) (he S _ (Ne.symm hSi) hS) (by omega) ⟨hG.above, fun j a hj => ?_, hG.nd⟩ hacc)
    obtain ⟨x, t, e1, e2⟩ := hG.pairs j a hj
    have la := hG.above a (List.mem_of_getElem? hj)
    exact ⟨x, t, e1, he a _ (Nat.ne_of_gt (Nat.lt_of_le_of_lt hli2 la)) e2⟩
  | succ k ih =>
    intro i h tk c acc as hk hi st hkeep hS hacc hal hG hlo
    have hlt : i < items.size := by omega
    have hsz : acc.size = i := by rw [← Array.length_toList, hacc, List.length_map, hal]
    have hSl' : S < h.objs.size := Heap.lt_size hS
    apply codeAny_builtin PySem.F.entry_extend_loop
    rw [Around.under_plainId PySem.F.plain_extend_loop _]
    show wpAny _ A.in1 (pyNext (.ref e) >>= _) _ _ _
    refine wpAny_bind (en_item (s := { s with heap := h, toks := tk }) st hSl' hei hle hli hlt fun h' st' ht hz hkp => ?_)
    dsimp only at ht hz hkp ⊢
    have hS' := hkp S _ (Ne.symm hSe) (Ne.symm hSi) hS
    have up : ∀ b o, b ≠ S → h'.get? b = some o → (h'.update S (Obj.mapSeq (·.push (Value.ref h.objs.size)))).get? b = some o := fun b o hb z => (Heap.get?_update_other _ _ (Ne.symm hb)).trans z
    have new : (h'.update S (Obj.mapSeq (·.push (Value.ref h.objs.size)))).get? h.objs.size = some { cls := .type "tuple", data := .seq #[.int i tk, items[i]] } := up _ _ (Nat.ne_of_gt hSl') ht
    show wpAny _ A.in1 (updateSeq S (·.push (Value.ref h.objs.size)) >>= _) _ _ _
    apply wpAny_bind
    refine wpAny_updateSeq hS' rfl (wpAny_pure ⟨plainId_quiet PySem.F.plain_extend_loop _, ?_⟩) (by rw [hsz]; omega) (by show (acc.push (Value.ref h.objs.size)).size ≤ sizeLine + 1; rw [Array.size_push, hsz]; omega)
    refine ih (i + 1) _ (tk + 1) _ (acc.push (Value.ref h.objs.size)) (as ++ [h.objs.size]) (by omega) hlt (st'.keep hSe hSi hSl up) (fun b o h1 h2 h3 z => up b o h1 (hkp b o h2 h3 (hkeep b o h1 h2 h3 z))) (Heap.get?_update_self _ hS' rfl)
      (by rw [Array.toList_push, hacc, List.map_append]; rfl) (by rw [List.length_append, hal]; rfl) ⟨fun a ha => ?_, fun j b hj => ?_, ?_⟩ (Nat.lt_trans hlo (Heap.lt_size new))
    · rcases List.mem_append.mp ha with ha | ha
      · exact hG.above a ha
      · rw [List.mem_singleton.mp ha]
        exact hlo
    · rcases Nat.lt_trichotomy j as.length with h1 | h1 | h1
      · rw [List.getElem?_append_left h1] at hj
        obtain ⟨x, t, e1, e2⟩ := hG.pairs j b hj
        have hb := hG.above b (List.mem_of_getElem? hj)
        exact ⟨x, t, e1, up b _ (Nat.ne_of_gt (Nat.lt_of_le_of_lt hlS hb)) (hkp b _ (Nat.ne_of_gt (Nat.lt_of_le_of_lt hle2 hb)) (Nat.ne_of_gt (Nat.lt_of_le_of_lt hli2 hb)) e2)⟩
      · subst h1
        have hb : h.objs.size = b := by simpa using hj
        subst hb
        subst hal
        exact ⟨_, tk, Array.getElem?_eq_getElem hlt, new⟩
      · have hnone : (as ++ [h.objs.size])[j]? = none := List.getElem?_eq_none (by rw [List.length_append, List.length_singleton]; omega)
        rw [hnone] at hj
        cases hj
    · refine List.pairwise_append.mpr ⟨hG.nd, List.pairwise_singleton _ _, fun a ha b hb => ?_⟩
      rw [List.mem_singleton.mp hb]
      exact hG.there ha
end
section
variable {prog : Program} {w : World} {A : Around} {E : Value → Shared → Prop} {s : Shared} {e it l : Addr} {items : Array Value}
theorem en_call {Q : Value → Shared → Prop} (hh : A.handled = none) (he : IsEnum s.heap e it 0 .none) (hit : s.heap.IsListIter it l 0) (hl : s.heap.IsList l items) (hei : e ≠ it) (hle : l ≠ e) (hli : l ≠ it) (hn : items.size ≤ sizeLine)
    (hQ : ∀ h' tk acc c as, (∀ b o, b ≠ e → b ≠ it → s.heap.get? b = some o → h'.get? b = some o) → h'.get? s.heap.objs.size = some { cls := .type "list", dict := none, data := .seq acc c, slots := #[] } → as.length = items.size → EnG items s.heap.objs.size h' as →
      acc.toList = as.map Value.ref → Q (.ref s.heap.objs.size) { s with heap := h', toks := tk }) :
    wpAny (model prog w) A (call (.type "list") [.ref e]) Q E s := by
  have helt : e < s.heap.objs.size := Heap.lt_size he
  have hilt : it < s.heap.objs.size := by
    obtain ⟨_, x, _⟩ := id hit
    exact Heap.lt_size x
  have hllt : l < s.heap.objs.size := by
    obtain ⟨_, x, _⟩ := id hl
    exact Heap.lt_size x
  apply callType_codes (Q₁ := fun obj s₁ => obj = .ref s.heap.objs.size ∧ s₁ = { s with heap := s.heap.push { cls := .type "list", data := .seq #[] } }) PySem.F.called_list (PySem.F.typeCall_list_1 _) PySem.F.entry_list_init (code_list_new _ ⟨rfl, rfl⟩)
  rintro obj s₁ ⟨rfl, rfl⟩
  have hS : (s.heap.push { cls := .type "list", data := .seq #[] }).get? s.heap.objs.size = some { cls := .type "list", data := .seq #[] } := Heap.get?_push_size _ rfl
  refine ⟨⟨_, hS, rfl⟩, PySem.F.args_list_init_2 _ _, ?_⟩
  show wpAny _ _ (do let old ← Builtin.List.listItems (.ref s.heap.objs.size); Builtin.List.listUpdate (.ref s.heap.objs.size) (fun _ => #[]); letGo old.toList.reverse; Builtin.List.listExtendWith (.ref s.heap.objs.size) (.ref e) .none) _ _ _
  apply wpAny_bind
  unfold Builtin.List.listItems
  refine wpAny_bind (wpAny_seqItems hS rfl (wpAny_pure ?_))
  show wpAny _ _ (updateSeq s.heap.objs.size (fun _ => #[]) >>= fun _ => letGo (#[] : Array Value).toList.reverse >>= fun _ => Builtin.List.listExtendWith (.ref s.heap.objs.size) (.ref e) .none) _ _ _
  refine wpAny_bind (wpAny_updateSeq hS rfl ?_)
  have hS₂ := Heap.get?_update_self (Obj.mapSeq (fun _ => (#[] : Array Value))) hS rfl
  generalize hh2 : (s.heap.push { cls := .type "list", data := .seq #[] }).update s.heap.objs.size (Obj.mapSeq fun _ => (#[] : Array Value)) = g2 at hS₂ ⊢
  have k2 : ∀ b o, s.heap.get? b = some o → g2.get? b = some o := fun b o z => by
    rw [← hh2]
    exact (Heap.get?_update_other _ _ (Nat.ne_of_gt (Heap.lt_size z))).trans (Heap.get?_push_of_some _ z)
  refine wpAny_bind (wpAny_letGo ?_)
  -- the extension
  unfold Builtin.List.listExtendWith
  refine wpAny_bind (wpAny_typeOf (T := "enumerate") ⟨_, k2 _ _ he, rfl⟩ ?_)
  have h1 : Builtin.List.listSameRef (.ref s.heap.objs.size) (.ref e) = false := by
    have : s.heap.objs.size ≠ e := Nat.ne_of_gt helt
    simp [Builtin.List.listSameRef, this]
  have h2 : (Value.type "enumerate" == Value.type "list") = false := by decide
  have h3 : (Value.type "enumerate" == Value.type "tuple") = false := by decide
  simp only [h1, h2, h3, Bool.or_false, Bool.false_eq_true, if_false]
  refine wpAny_bind (wpAny_pyIter_enum (s := { s with heap := g2 }) (k2 _ _ he) ?_)
  refine wpAny_bind (wpAny_holding (en_room ⟨_, k2 _ _ he, rfl⟩ ?_))
  rw [if_pos (show (true || _) = true from rfl)]
  refine wpAny_bind (wpAny_rule ?_)
  apply wpAny_bind
  show wpAny _ _ (updateSeq s.heap.objs.size (·.push .none) >>= fun _ => updateSeq s.heap.objs.size (·.pop)) _ _ _
  refine wpAny_bind (wpAny_updateSeq hS₂ rfl ?_)
  have hS₃ := Heap.get?_update_self (Obj.mapSeq (·.push Value.none)) hS₂ rfl
  refine wpAny_updateSeq (hz := by seq_fits) hS₃ rfl ?_
  have hS₄ := Heap.get?_update_self (Obj.mapSeq (·.pop)) hS₃ rfl
  refine wpAny_pure ⟨plainId_quiet PySem.F.plain_extend_loop _, ?_⟩
  have k4 : ∀ b o, s.heap.get? b = some o → ((g2.update s.heap.objs.size (Obj.mapSeq (·.push Value.none))).update s.heap.objs.size (Obj.mapSeq (·.pop))).get? b = some o := fun b o z => by
    have nb := Nat.ne_of_gt (Heap.lt_size z)
    exact (Heap.get?_update_other _ _ nb).trans ((Heap.get?_update_other _ _ nb).trans (k2 b o z))
  refine en_loop (A := A.in1) (s := s) (h₁ := s.heap) (lo := s.heap.objs.size) hh (Nat.ne_of_lt helt) (Nat.ne_of_lt hilt) (Nat.ne_of_lt hllt) hei hle hli hn .none (Nat.le_refl _) (Nat.le_of_lt helt) (Nat.le_of_lt hilt) (fun h' tk acc c as hk hS' hal hG hacc => ?_)
    items.size 0 _ s.toks _ #[] [] (Nat.sub_zero _) (Nat.zero_le _) ⟨hit.at fun o z => k4 _ o z, hl.at fun o z => k4 _ o z, Or.inl ⟨_, k4 _ _ he⟩⟩ (fun b o _ _ _ z => k4 b o z) hS₄ rfl rfl ⟨fun _ z => (nomatch z), fun j a hj => by simp at hj, List.Pairwise.nil⟩ (Heap.lt_size hS₄)
  exact ⟨rfl, hQ h' tk acc c as (fun b o h1 h2 z => hk b o (Nat.ne_of_lt (Heap.lt_size z)) h1 h2 z) hS' hal hG hacc⟩
end
end Mi

/-! more rules -/
namespace Mi
open PySem PySem.Spec PyProof.Rows L2

theorem hu64 {k : Nat} {A : Around} (hr : Rm k A) : A.units + 64 < cLine := by
  have := hr.rm.un
  omega

/-! ### several new objects at once -/
theorem lookup_mem {F : List (Addr × HO)} {b : Addr} {o : HO} (h : F.lookup b = some o) : (b, o) ∈ F := by
  induction F with
  | nil => cases h
  | cons x F ih =>
    obtain ⟨a, u⟩ := x
    by_cases e : b = a
    · subst e
      rw [List.lookup_cons_self] at h
      cases h
      exact List.mem_cons_self
    · have q : (b == a) = false := beq_eq_false_iff_ne.mpr e
      simp only [List.lookup_cons, q] at h
      exact List.mem_cons_of_mem _ (ih h)
theorem mem_lookup {F : List (Addr × HO)} (nd : (F.map Prod.fst).Nodup) {b : Addr} {o : HO} (h : (b, o) ∈ F) : F.lookup b = some o := by
  induction F with
  | nil => cases h
  | cons x F ih =>
    obtain ⟨a, u⟩ := x
    rw [List.map_cons, List.nodup_cons] at nd
    rcases List.mem_cons.mp h with e | e
    · cases e
      exact List.lookup_cons_self
    · have ne : b ≠ a := fun z => nd.1 (by
        show a ∈ F.map Prod.fst
        rw [← z]
        exact List.mem_map.mpr ⟨_, e, rfl⟩)
      have q : (b == a) = false := beq_eq_false_iff_ne.mpr ne
      simp only [List.lookup_cons, q]
      exact ih nd.2 e
section
variable {X : Cx} {pins : List (Addr × Obj)} {σ : L2.St} {H : Hp} {s : Shared} {h' : Heap}
theorem inv_lays {t' : Nat} (I : Inv X pins σ H s) (k : ∀ b u, s.heap.get? b = some u → h'.get? b = some u) (F : List (Addr × HO)) (nd : (F.map Prod.fst).Nodup) (hp : ∀ x ∈ F, s.heap.objs.size ≤ x.1)
    (new : ∀ x ∈ F, ∀ H2, ObjOk X.prog X.w H2 h' x.1 x.2) : ∃ H2, Led H F H2 ∧ Inv X pins σ H2 { s with heap := h', toks := t' } := by
  have low : ∀ b o, H b = some o → b < s.heap.objs.size := fun b o e => I.hok.lt e
  refine ⟨fun b => if b < s.heap.objs.size then H b else F.lookup b, ⟨fun b o e => ?_, fun x hx => ⟨?_, ?_⟩, nd⟩, I.un ⟨?_, ?_, ?_, ?_, ?_, ?_, ?_⟩ ?_⟩
  · exact (if_pos (low b o e)).trans e
  · exact (if_neg (Nat.not_lt.mpr (hp x hx))).trans (mem_lookup nd hx)
  · exact I.hok.fresh (hp x hx)
  · exact fun b o e _ _ _ => k b o e
  · exact fun b o e _ _ _ => ⟨o.slots, k b o e⟩
  · exact fun b o e n _ => (if_pos (Heap.lt_size e)).trans n
  · exact fun b o e _ => ⟨o, k b o e⟩
  · exact fun b xs e => (if_pos (low b _ e)).trans e
  · exact fun b o u e => (if_pos (low b _ e)).trans e
  · exact fun b ps e => ⟨#[], by rw [Array.append_empty]; exact (if_pos (low b _ e)).trans e⟩
  · intro b o e
    by_cases hb : b < s.heap.objs.size
    · have e' : H b = some o := (if_pos hb).symm.trans e
      exact (I.hok b o e').stay (fun c u _ q => k c u q) (fun c q => (if_pos (low c _ q)).trans q) fun c xs q => (if_pos (low c _ q)).trans q
    · have e' : F.lookup b = some o := (if_neg hb).symm.trans e
      exact new _ (lookup_mem e') _
end

/-! ### list(enumerate(xs)) -/
/-- the pairs (j, item) at the addresses -/
def enF (as : List Addr) (xs : List V) : List (Addr × HO) := (List.range xs.length).map fun j => (as.getD j 0, .tup [.int (j : Nat), xs.getD j .non])
def tListEnum (K : PySem.W.Frag) (te : TE) : TE := fun σ H Q => te σ H fun x H1 => ∃ a xs, x = .ref a ∧ SqL K H1 a xs ∧ ∀ P as H2, as.length = xs.length → Led H1 ((P, .lst (as.map V.ref)) :: enF as xs) H2 → Q (.ref P) H2
section
variable {X : Cx}
theorem pe_listEnum {e : Expr} {te : TE} {p p2 pos pos2 : Pos} (hc : X.calm = true) (hg : Gl X "list") (hg2 : Gl X "enumerate") (hm : X.mg "list" = none) (hm2 : X.mg "enumerate" = none) (he : PE X e te)
    (hs : starEach [e] X.env = (false, eval e X.env) :: starEach [] X.env := by rfl)
    (hs2 : starEach [.Call (.Name "enumerate" p2) [e] [] pos2] X.env = (false, eval (.Call (.Name "enumerate" p2) [e] [] pos2) X.env) :: starEach [] X.env := by rfl) :
    PE X (.Call (.Name "list" p) [.Call (.Name "enumerate" p2) [e] [] pos2] [] pos) (tListEnum X.K te) := by
  constructor
  intro pins s σ H Q I h
  refine Call_ (ld_blt I hg hm (u := .type "list") (by decide +kernel) (PyProof.Rows.callWith_type1 (args_cons ?_ hs2) hs2 rfl))
  refine Call_ (ld_blt I hg2 hm2 (u := .type "enumerate") (by decide +kernel) (PyProof.Rows.callWith_type1 (args_cons ?_ hs) hs rfl))
  apply thn (he.run pins s σ H _ I h)
  rintro u s1 ⟨v, H1, I1, r1, a, xs, ev, hq, q⟩
  subst ev
  cases (show u = Value.ref a from r1)
  obtain ⟨its, rv, pl, hz⟩ := I1.list hq
  refine args_nil (call_enumerate_list pl.isList fun h1 he1 hi1 hz1 k1 => args_nil ?_)
  obtain ⟨ol, hol, _⟩ := id pl.isList
  have hal : a < s1.heap.objs.size := Heap.lt_size hol
  have hl1 : h1.IsList a its.toArray := pl.isList.at fun o z => k1 a o z
  have c1 : s1.heap.objs.size + 1 ≠ s1.heap.objs.size := Nat.succ_ne_self _
  refine en_call (s := { s1 with heap := h1 }) (I1.ok.hd hc) he1 hi1 hl1 c1 (Nat.ne_of_lt (Nat.lt_succ_of_lt hal)) (Nat.ne_of_lt hal) (by rw [List.size_toArray, ← rv.length]; exact hz) fun h' tk acc c as hk hS hal2 hG hacc => ?_
  have sz1 : h1.objs.size = s1.heap.objs.size + 2 := hz1
  have hlen : as.length = xs.length := by rw [hal2, List.size_toArray, rv.length]
  have get : ∀ j (hj : j < xs.length), as[j]? = some (as.getD j 0) := fun j hj => by
    have hj' : j < as.length := by rw [hlen]; exact hj
    rw [List.getElem?_eq_getElem hj', List.getD_eq_getElem?_getD, List.getElem?_eq_getElem hj']
    rfl
  have kk : ∀ b o, s1.heap.get? b = some o → h'.get? b = some o := fun b o z => by
    have lb : b < s1.heap.objs.size := Heap.lt_size z
    exact hk b o (Nat.ne_of_lt (Nat.lt_succ_of_lt lb)) (Nat.ne_of_lt lb) (k1 b o z)
  have mm : ∀ x ∈ enF as xs, ∃ j, j < xs.length ∧ x = (as.getD j 0, HO.tup [.int (j : Nat), xs.getD j .non]) := fun x hx => by
    obtain ⟨j, hj, e⟩ := List.mem_map.mp hx
    exact ⟨j, List.mem_range.mp hj, e.symm⟩
  have ab : ∀ j, j < xs.length → h1.objs.size < as.getD j 0 := fun j hj => hG.above _ (List.mem_of_getElem? (get j hj))
  have efst : (enF as xs).map Prod.fst = as := by
    apply List.ext_getElem?
    intro j
    unfold enF
    rw [List.map_map, List.getElem?_map]
    by_cases hj : j < xs.length
    · rw [List.getElem?_range hj, get j hj]
      rfl
    · rw [List.getElem?_eq_none (by rw [List.length_range]; omega), List.getElem?_eq_none (by rw [hlen]; omega)]
      rfl
  obtain ⟨H2, L2', I2⟩ := inv_lays (t' := tk) I1 kk ((h1.objs.size, .lst (as.map V.ref)) :: enF as xs) (by
      rw [List.map_cons, efst, List.nodup_cons]
      refine ⟨fun z => Nat.lt_irrefl _ (hG.above _ z), ?_⟩
      exact hG.nd.imp fun {a b} l => Nat.ne_of_lt l) (fun x hx => by
      rcases List.mem_cons.mp hx with e | e
      · subst e
        show s1.heap.objs.size ≤ h1.objs.size
        omega
      · obtain ⟨j, hj, e⟩ := mm x e
        subst e
        have := ab j hj
        show s1.heap.objs.size ≤ as.getD j 0
        exact Nat.le_trans (by omega) (Nat.le_of_lt this)) (fun x hx H2 => by
      rcases List.mem_cons.mp hx with e | e
      · subst e
        refine ⟨by rw [List.length_map, hlen]; exact hz, as.map Value.ref, c, ?_, ?_⟩
        · exact vals_refs as
        · rw [← hacc]
          exact hS
      · obtain ⟨j, hj, e⟩ := mm x e
        subst e
        obtain ⟨y, t, e1, e2⟩ := hG.pairs j _ (get j hj)
        refine ⟨by show 2 ≤ sizeLine; decide, [.int (j : Nat) t, y], .cons ⟨t, rfl⟩ (.cons ?_ .nil), ⟨_, e2, rfl, _, rfl⟩⟩
        have e1' : its[j]? = some y := by simpa using e1
        have hx' : xs[j]? = some (xs.getD j .non) := by
          rw [List.getElem?_eq_getElem hj, List.getD_eq_getElem?_getD, List.getElem?_eq_getElem hj]
          rfl
        obtain ⟨u, e3, r3⟩ := rv.get hx'
        rw [e1'] at e3
        cases e3
        exact r3)
  exact ⟨.ref h1.objs.size, H2, I2, rfl, q _ as H2 hlen L2'⟩
end
end Mi

/-! names for the rules that the printed readings use -/
namespace Mi
open PySem PySem.Spec PyProof.Rows L2

def rLenL (K : PySem.W.Frag) : List V → Hp → VK → Prop := fun xs H Q => ∃ p ys, xs = [.ref p] ∧ (SqL K H p ys ∨ SqT K H p ys) ∧ Q (.int ys.length) H
def rLenT : List V → Hp → VK → Prop := fun xs H Q => ∃ z : Str, xs = [.str z] ∧ z.length ≤ sizeLine ∧ Q (.int z.length) H
def rInt1 : List V → Hp → VK → Prop := fun xs H Q => (∃ i, xs = [.int i] ∧ Q (.int i) H) ∨ ∃ k, xs = [.bl k] ∧ Q (.int (if k then 1 else 0)) H
def rIntS : List V → Hp → VK → Prop := fun xs H Q => ∃ a n, xs = [.str a] ∧ PySem.intText? a = some n ∧ a.length ≤ 640 ∧ Q (.int n) H
def rStrI : List V → Hp → VK → Prop := fun xs H Q => ∃ i, xs = [.int i] ∧ i.natAbs.log2 < 1920 ∧ Q (.str (toString i)) H
def rListOf (K : PySem.W.Frag) : List V → Hp → VK → Prop := fun xs H Q => ∃ p ys, xs = [.ref p] ∧ (SqL K H p ys ∨ SqT K H p ys) ∧ ∀ l, H l = none → Q (.ref l) (upd H l (.lst ys))
def rMax2 : List V → Hp → VK → Prop := fun xs H Q => ∃ i j, xs = [.int i, .int j] ∧ Q (.int (if j > i then j else i)) H
def rMin2 : List V → Hp → VK → Prop := fun xs H Q => ∃ i j, xs = [.int i, .int j] ∧ Q (.int (if j < i then j else i)) H
def rAbs : List V → Hp → VK → Prop := fun xs H Q => ∃ i, xs = [.int i] ∧ Q (.int (if i < 0 then -i else i)) H
def tRaise0 (E : XK) (cls : Value) : TS := fun _ _ H => E cls none H
/-- two lists of ints -/
def rEqLI (K : PySem.W.Frag) (neg : Bool) : R2 := fun x y H Q => ∃ (a b : Addr) (ns ms : List Int), x = .ref a ∧ y = .ref b ∧ SqL K H a (ns.map V.int) ∧ SqL K H b (ms.map V.int) ∧ Q (.bl (if neg then !decide (ns = ms) else decide (ns = ms))) H

theorem dpAll_ints {K : PySem.W.Frag} {H : Hp} : ∀ ns : List Int, DpAll K H (ns.map V.int) (ns.map PyData.int)
  | [] => .nil
  | n :: ns => .cons (.int n) (dpAll_ints ns)
theorem dp_ints {K : PySem.W.Frag} {H : Hp} {a : Addr} {ns : List Int} (h : SqL K H a (ns.map V.int)) : Dp K H (.ref a) (.list (ns.map PyData.int)) := .lst h (dpAll_ints ns)
theorem canLay_ints : ∀ ns : List Int, PySem.PyData.canLayAll0 (ns.map PyData.int) = true
  | [] => rfl
  | n :: ns => by
    show (PySem.PyData.canLay0 (PyData.int n) && PySem.PyData.canLayAll0 (ns.map PyData.int)) = true
    rw [canLay_ints ns]
    rfl
theorem eqvAll_ints : ∀ ns ms : List Int, PySem.PyData.eqvAll (ns.map PyData.int) (ms.map PyData.int) = decide (ns = ms)
  | [], [] => rfl
  | [], m :: ms => rfl
  | n :: ns, [] => rfl
  | n :: ns, m :: ms => by
    show (PySem.PyData.eqv (.int n) (.int m) && PySem.PyData.eqvAll (ns.map PyData.int) (ms.map PyData.int)) = decide (n :: ns = m :: ms)
    rw [eqvAll_ints ns ms]
    have : PySem.PyData.eqv (.int n) (.int m) = (n == m) := rfl
    rw [this]
    by_cases h : n = m
    · subst h; simp
    · simp [h]
theorem depth_ints : ∀ ns : List Int, PySem.PyData.depthAll (ns.map PyData.int) ≤ 1
  | [] => by decide
  | n :: ns => by
    show max (PySem.PyData.depth (PyData.int n)) (PySem.PyData.depthAll (ns.map PyData.int)) ≤ 1
    have h := depth_ints ns
    have h2 : PySem.PyData.depth (PyData.int n) ≤ 1 := by first | exact Nat.le_refl _ | decide | exact Nat.zero_le _
    omega
theorem shaped_ints (ns : List Int) : SeqAt.shaped (.list (ns.map PyData.int)) = true := by
  unfold SeqAt.shaped
  rw [Bool.and_eq_true]
  refine ⟨canLay_ints ns, decide_eq_true ?_⟩
  have h := depth_ints ns
  show PySem.PyData.depthAll (ns.map PyData.int) + 1 ≤ 64
  omega
section
variable {X : Cx} {k : Nat}
theorem op_eqLI (hr : Rm k X.A) : OpR X (compareOp .Eq) (rEqLI X.K false) := by
  intro pins s σ H x y v u Q I rx ry h
  obtain ⟨a, b, ns, ms, rfl, rfl, h1, h2, q⟩ := h
  refine op_eqD (hu64 hr) pins s σ H _ _ v u Q I rx ry ⟨_, _, dp_ints h1, dp_ints h2, shaped_ints ns, shaped_ints ms, ?_⟩
  have e : PySem.PyData.eqv (.list (ns.map PyData.int)) (.list (ms.map PyData.int)) = decide (ns = ms) := eqvAll_ints ns ms
  rw [e]
  exact q
theorem op_neLI (hr : Rm k X.A) : OpR X (compareOp .NotEq) (rEqLI X.K true) := by
  intro pins s σ H x y v u Q I rx ry h
  obtain ⟨a, b, ns, ms, rfl, rfl, h1, h2, q⟩ := h
  refine op_neD (hu64 hr) pins s σ H _ _ v u Q I rx ry ⟨_, _, dp_ints h1, dp_ints h2, shaped_ints ns, shaped_ints ms, ?_⟩
  have e : PySem.PyData.eqv (.list (ns.map PyData.int)) (.list (ms.map PyData.int)) = decide (ns = ms) := eqvAll_ints ns ms
  rw [e]
  exact q
theorem ip_of {op : Operator} {r : R2} (h : OpR X (inplaceOp op) r) : PIp X op r := h
end

/-! ### own exception classes -/
def clsAt (mg : Str → Option Value) (x : Str) : Addr := match mg x with
  | some (.ref a) => a
  | _ => 0
structure Exc1 (K : PySem.W.Frag) (mg : Str → Option Value) (C : Str → Addr) (c : Str) : Prop where
  g : mg c = some (.ref (C c))
  x : PySem.W.excIn K (C c) [.type "ValueError", .type "Exception", .type "BaseException", .type "object"] "ValueError.__new__" = true
  k : PySem.W.keepIn K (.ref (C c)) = true
  b : PySem.W.subIn K (.ref (C c)) (.type "BaseException") = some true
  t : PySem.W.typeIn K (.ref (C c)) = some (.type "type")
theorem exc1_of {K : PySem.W.Frag} {mg : Str → Option Value} {c : Str} {a : Addr} (g : mg c = some (.ref a)) (x : PySem.W.excIn K a [.type "ValueError", .type "Exception", .type "BaseException", .type "object"] "ValueError.__new__" = true)
    (k : PySem.W.keepIn K (.ref a) = true) (b : PySem.W.subIn K (.ref a) (.type "BaseException") = some true) (t : PySem.W.typeIn K (.ref a) = some (.type "type")) : Exc1 K mg (clsAt mg) c := by
  have e : clsAt mg c = a := by
    unfold clsAt
    rw [g]
  exact ⟨by rw [e]; exact g, by rw [e]; exact x, by rw [e]; exact k, by rw [e]; exact b, by rw [e]; exact t⟩

/-! ### the readings' words -/
section
variable {H : Hp} {Q : VK} {K : PySem.W.Frag} {xs : List V} {x y : V}
theorem b_lenL : rLenL K xs H Q = ∃ p ys, xs = [.ref p] ∧ (SqL K H p ys ∨ SqT K H p ys) ∧ Q (.int ys.length) H := rfl
theorem b_int1b {k : Bool} : rInt1 [.bl k] H Q = Q (.int (if k then 1 else 0)) H := by
  apply propext
  constructor
  · rintro (⟨i, e, _⟩ | ⟨j, e, q⟩)
    · cases e
    · cases e
      exact q
  · exact fun q => Or.inr ⟨k, rfl, q⟩
theorem b_int1i {i : Int} : rInt1 [.int i] H Q = Q (.int i) H := by
  apply propext
  constructor
  · rintro (⟨j, e, q⟩ | ⟨j, e, _⟩)
    · cases e
      exact q
    · cases e
  · exact fun q => Or.inl ⟨i, rfl, q⟩
theorem b_listOf : rListOf K xs H Q = ∃ p ys, xs = [.ref p] ∧ (SqL K H p ys ∨ SqT K H p ys) ∧ ∀ l, H l = none → Q (.ref l) (upd H l (.lst ys)) := rfl
theorem b_max2 {i j : Int} : rMax2 [.int i, .int j] H Q = Q (.int (if j > i then j else i)) H := propext ⟨fun ⟨i', j', e, q⟩ => by cases e; exact q, fun q => ⟨i, j, rfl, q⟩⟩
theorem b_min2 {i j : Int} : rMin2 [.int i, .int j] H Q = Q (.int (if j < i then j else i)) H := propext ⟨fun ⟨i', j', e, q⟩ => by cases e; exact q, fun q => ⟨i, j, rfl, q⟩⟩
theorem b_sum : rSum K xs H Q = ∃ (a : Addr) (ns : List Int), xs = [V.ref a] ∧ SqL K H a (ns.map V.int) ∧ Q (.int ns.sum) H := rfl
theorem b_rep : rRep x y H Q = ∃ l k xs, x = .ref l ∧ y = .int k ∧ H l = some (.lst xs) ∧ -(2 ^ 63) ≤ k ∧ k < 2 ^ 63 ∧ xs.length * k.toNat ≤ sizeLine ∧ ∀ p, H p = none → Q (.ref p) (upd H p (.lst (List.replicate k.toNat xs).flatten)) := rfl
theorem b_eqLI0 : rEqLI K false x y H Q = ∃ (a b : Addr) (ns ms : List Int), x = .ref a ∧ y = .ref b ∧ SqL K H a (ns.map V.int) ∧ SqL K H b (ms.map V.int) ∧ Q (.bl (decide (ns = ms))) H := rfl
theorem b_eqLI1 : rEqLI K true x y H Q = ∃ (a b : Addr) (ns ms : List Int), x = .ref a ∧ y = .ref b ∧ SqL K H a (ns.map V.int) ∧ SqL K H b (ms.map V.int) ∧ Q (.bl (!decide (ns = ms))) H := rfl
theorem scal_ii {i j : Int} : scal (.int i) (.int j) = true := rfl
theorem scal_bb {i j : Bool} : scal (.bl i) (.bl j) = true := rfl
theorem scal_ss {i j : Str} : scal (.str i) (.str j) = true := rfl
theorem b_isN : rIsN x y H Q = (y = .non ∧ Q (.bl (decide (x = .non))) H) := rfl
theorem b_notN : rNotN x y H Q = (y = .non ∧ Q (.bl (!decide (x = .non))) H) := rfl
theorem b_listEnum {σ : L2.St} {te : TE} : tListEnum K te σ H Q = te σ H fun x H1 => ∃ a xs, x = .ref a ∧ SqL K H1 a xs ∧ ∀ P as H2, as.length = xs.length → Led H1 ((P, .lst (as.map V.ref)) :: enF as xs) H2 → Q (.ref P) H2 := rfl
theorem b_raise0 {D : Ends} {σ : L2.St} {E : XK} {c : Value} : tRaise0 E c D σ H = E c none H := rfl
end
end Mi

/-! an exception of a built-in class as a thing; a display of one pair -/
namespace Mi
open PySem PySem.Spec PyProof.Rows L2
/-- an exception of the built-in class ValueError at a -/
def ExV (a : Addr) : HO := .ext fun h => ∃ oe : Obj, h.get? a = some oe ∧ oe.cls = .type "ValueError"
def TyV (K : PySem.W.Frag) (H : Hp) (x : V) (t : Value) : Prop := TyX K H x t ∨ ∃ a : Addr, x = .ref a ∧ t = .type "ValueError" ∧ H a = some (ExV a)
theorem kit_ofV {X : Cx} {pins : List (Addr × Obj)} {σ : L2.St} {H : Hp} {s : Shared} {x : V} {u t : Value} (I : Inv X pins σ H s) (rx : RelV x u) (ty : TyV X.K H x t) : ∃ P : Heap → Prop, PySem.W.KitX X.K u t P ∧ P s.heap ∧ u ≠ .builtin "__main__.__loader__#opaque" := by
  rcases ty with ty | ⟨a, rfl, rfl, ha⟩
  · exact kit_of I rx ty
  · cases (show u = Value.ref a from rx)
    obtain ⟨⟨oe, e, c⟩, _⟩ := I.hok a _ ha
    exact ⟨_, PySem.W.kitx_bexc PySem.F.excAttr_ValueError (by kernel_rfl) (by kernel_rfl) (by decide), ⟨oe, e, c⟩, fun z => nomatch z⟩
def tExcV (t : TE) : TE := fun σ H Q => t σ H fun _ H1 => ∀ a, H1 a = none → Q (.ref a) (upd H1 a (ExV a))
def tDispC (i : Int) (v : V) : TE := fun _ H Q => ∀ p, H p = none → Q (.ref p) (upd H p (.dK [(.inl i, v)]))
section
variable {X : Cx} {x : Str} {e : Expr} {ta : TE} {p pos : Pos}
theorem pe_excV (hg : Gl X x) (hm : X.mg x = none) (hv : bootBuiltins x = some (.type "ValueError")) (ha : PE X e ta) (hn : x ≠ "__name__" := by decide) (hdb : (x == ("__debug__" : Str)) = false := by decide)
    (he : starEach [e] X.env = (false, eval e X.env) :: starEach [] X.env := by rfl) (hpl : (backTo pos (starEach [] X.env)).any (·.1) = false := by rfl) :
    PE X (.Call (.Name x p) [e] [] pos) (tExcV ta) := by
  refine ⟨fun pins s σ H Q I h => ?_⟩
  refine wpAny_Call_Name_kw (ld_blt I hg hm hv ?_ hn hdb)
  refine PyProof.Rows.callWith_type1 (thn ((pa_cons ha pa_nil (hs := he)).run pos pins s σ H (fun vs H1 => vs.length ≤ sizeLine ∧ ∀ a, H1 a = none → Q (.ref a) (upd H1 a (ExV a))) I ?_) fun us s1 hh => ?_) he hpl
  · have e : (fun (x : V) (H1 : Hp) => [x].length ≤ sizeLine ∧ ∀ a, H1 a = none → Q (.ref a) (upd H1 a (ExV a))) = fun _ H1 => ∀ a, H1 a = none → Q (.ref a) (upd H1 a (ExV a)) := by
      funext x H1
      exact propext ⟨fun h => h.2, fun h => ⟨by show 1 ≤ sizeLine; rw [sizeLine_eq]; omega, h⟩⟩
    show ta σ H (fun (x : V) (H1 : Hp) => [x].length ≤ sizeLine ∧ ∀ a, H1 a = none → Q (.ref a) (upd H1 a (ExV a)))
    rw [e]
    exact h
  obtain ⟨vs, H1, I1, r1, q0, q1⟩ := hh
  obtain ⟨hp1, g1, d1, tk1, os1⟩ := s1
  refine wpAny_call_exc exb_ValueError.call (fun h' a mk => ?_) (Nat.le_trans (Nat.le_of_eq r1.length.symm) q0)
  have hn1 : H1 a = none := I1.hok.gone mk.new
  obtain ⟨t, ht, _⟩ := mk.there
  exact ⟨.ref a, upd H1 a (ExV a), I1.laidN mk.keeps mk.new hn1 ⟨⟨_, ht, rfl⟩, ⟨_, ht⟩, fun _ _ ⟨o, q, r⟩ k => ⟨o, k o q, r⟩⟩, rfl, q1 a hn1⟩
theorem pe_dispC {k v : Expr} {i : Int} {w : V} (hk : PE X k (tC (.int i))) (hv : PE X v (tC w)) : PE X (.Dict [some k] [v] pos) (tDispC i w) := by
  refine ⟨fun pins s σ H Q I h => (pe_disp (pps_cons hk hv pps_nil) rfl rfl (by simp) (show 1 ≤ 15 by decide)).run pins s σ H Q I ?_⟩
  intro p hp
  refine ⟨upd_same, [(.inl i, w)], rfl, show 1 ≤ 15 by decide, ?_⟩
  have e : upd (upd H p (.dK [])) p (.dK (mergeK [] [(.inl i, w)])) = upd H p (.dK [(.inl i, w)]) := by
    funext b
    by_cases c : b = p
    · rw [c, upd_same, upd_same]
      rfl
    · rw [upd_ne c, upd_ne c, upd_ne c]
  rw [e]
  exact h p hp
def tDispV (j : Nat) (v : V) : TE := fun σ H Q => ∃ i : Int, σ[j]? = some (some (.int i)) ∧ ∀ p, H p = none → Q (.ref p) (upd H p (.dK [(.inl i, v)]))
theorem pe_dispV {k v : Expr} {j : Nat} {w : V} (hk : PE X k (tVar j)) (hv : PE X v (tC w)) : PE X (.Dict [some k] [v] pos) (tDispV j w) := by
  refine ⟨fun pins s σ H Q I h => (pe_disp (pps_cons hk hv pps_nil) rfl rfl (by simp) (show 1 ≤ 15 by decide)).run pins s σ H Q I ?_⟩
  obtain ⟨i, hi, h⟩ := h
  intro p hp
  refine ⟨_, hi, upd_same, [(.inl i, w)], rfl, show 1 ≤ 15 by decide, ?_⟩
  have e : upd (upd H p (.dK [])) p (.dK (mergeK [] [(.inl i, w)])) = upd H p (.dK [(.inl i, w)]) := by
    funext b
    by_cases c : b = p
    · rw [c, upd_same, upd_same]
      rfl
    · rw [upd_ne c, upd_ne c, upd_ne c]
  rw [e]
  exact h p hp
theorem a_dispV {j : Nat} {v : V} {σ : L2.St} {H : Hp} {Q : VK} : tDispV j v σ H Q = ∃ i : Int, σ[j]? = some (some (.int i)) ∧ ∀ p, H p = none → Q (.ref p) (upd H p (.dK [(.inl i, v)])) := rfl
theorem a_excV {t : TE} {σ : L2.St} {H : Hp} {Q : VK} : tExcV t σ H Q = t σ H fun _ H1 => ∀ a, H1 a = none → Q (.ref a) (upd H1 a (ExV a)) := rfl
theorem a_dispC {i : Int} {v : V} {σ : L2.St} {H : Hp} {Q : VK} : tDispC i v σ H Q = ∀ p, H p = none → Q (.ref p) (upd H p (.dK [(.inl i, v)])) := rfl
end
end Mi

/-! figures of numbers -/
namespace Mi
/-- figures, the least place first -/
def digs (b n : Nat) : List Nat := if h : 2 ≤ b ∧ b ≤ n then (n % b) :: digs b (n / b) else [n]
termination_by n
decreasing_by exact Nat.div_lt_self (by omega) (by omega)
def figs (b n : Nat) : List Nat := (digs b n).reverse
def val (b : Nat) (l : List Nat) : Nat := l.foldl (fun a d => a * b + d) 0
/-- the least place first -/
def vall (b : Nat) : List Nat → Nat
  | [] => 0
  | d :: l => d + b * vall b l
theorem digs_lt {b n : Nat} (h : n < b) : digs b n = [n] := by
  rw [digs, dif_neg (by omega)]
theorem digs_ge {b n : Nat} (hb : 2 ≤ b) (h : b ≤ n) : digs b n = (n % b) :: digs b (n / b) := by
  rw [digs, dif_pos ⟨hb, h⟩]
theorem digs_pos {b n : Nat} (hb : 2 ≤ b) (hn : 0 < n / b) : digs b n = (n % b) :: digs b (n / b) := by
  apply digs_ge hb
  exact Nat.le_of_not_lt fun z => by
    rw [Nat.div_eq_of_lt z] at hn
    omega
theorem digs_ne {b n : Nat} : digs b n ≠ [] := by
  rw [digs]
  split <;> simp
theorem vall_digs {b : Nat} (hb : 2 ≤ b) (n : Nat) : vall b (digs b n) = n := by
  induction n using Nat.strongRecOn with
  | _ n ih =>
    by_cases h : b ≤ n
    · rw [digs_ge hb h, vall, ih _ (Nat.div_lt_self (by omega) (by omega))]
      exact Nat.mod_add_div n b
    · rw [digs_lt (by omega)]
      simp [vall]
theorem digs_bd {b : Nat} (hb : 2 ≤ b) (n : Nat) : ∀ d ∈ digs b n, d < b := by
  induction n using Nat.strongRecOn with
  | _ n ih =>
    intro d hd
    by_cases h : b ≤ n
    · rw [digs_ge hb h] at hd
      rcases List.mem_cons.mp hd with e | e
      · subst e
        exact Nat.mod_lt _ (by omega)
      · exact ih _ (Nat.div_lt_self (by omega) (by omega)) d e
    · rw [digs_lt (by omega)] at hd
      rcases List.mem_cons.mp hd with e | e
      · omega
      · cases e
/-- the greatest figure is above 0 but of 0 -/
theorem digs_last {b : Nat} (hb : 2 ≤ b) (n : Nat) (hn : 0 < n) : ∀ d, (digs b n).getLast? = some d → 0 < d := by
  induction n using Nat.strongRecOn with
  | _ n ih =>
    intro d hd
    by_cases h : b ≤ n
    · rw [digs_ge hb h] at hd
      have q : 0 < n / b := Nat.div_pos h (by omega)
      obtain ⟨x, l, e⟩ : ∃ x l, digs b (n / b) = x :: l := by
        cases e : digs b (n / b) with
        | nil => exact absurd e digs_ne
        | cons x l => exact ⟨x, l, rfl⟩
      have ih' := ih _ (Nat.div_lt_self (by omega) (by omega)) q d
      rw [e] at hd ih'
      rw [List.getLast?_cons_cons] at hd
      exact ih' hd
    · rw [digs_lt (by omega)] at hd
      simp at hd
      omega
/-- figures below the base, the last one above 0 or the only one, are a number's -/
theorem digs_vall {b : Nat} (hb : 2 ≤ b) : ∀ (l : List Nat), l ≠ [] → (∀ d ∈ l, d < b) → (l.length = 1 ∨ ∀ d, l.getLast? = some d → 0 < d) → digs b (vall b l) = l
  | [], h, _, _ => absurd rfl h
  | [d], _, hb', _ => by
    have : d < b := hb' d (by simp)
    simp only [vall, Nat.mul_zero, Nat.add_zero]
    exact digs_lt this
  | d :: e :: l, _, hb', hl => by
    have hd : d < b := hb' d (by simp)
    have hl' : ∀ x, (e :: l).getLast? = some x → 0 < x := by
      rcases hl with z | z
      · simp at z
      · intro x hx
        exact z x (by rw [List.getLast?_cons_cons]; exact hx)
    have hpos : 0 < vall b (e :: l) := by
      have : ∀ (l : List Nat), l ≠ [] → (∀ x, l.getLast? = some x → 0 < x) → 0 < vall b l := by
        intro l
        induction l with
        | nil => intro h; exact absurd rfl h
        | cons a l ih =>
          intro _ h
          cases l with
          | nil =>
            have := h a (by simp)
            simp only [vall]
            omega
          | cons c l =>
            have z := ih (by simp) (fun x hx => h x (by rw [List.getLast?_cons_cons]; exact hx))
            simp only [vall] at z ⊢
            have : 0 < b * (c + b * vall b l) := Nat.mul_pos (by omega) z
            omega
      exact this _ (by simp) hl'
    have ih := digs_vall hb (e :: l) (by simp) (fun x hx => hb' x (List.mem_cons_of_mem _ hx)) (Or.inr hl')
    have e1 : vall b (d :: e :: l) = d + b * vall b (e :: l) := rfl
    have e2 : (d + b * vall b (e :: l)) / b = vall b (e :: l) := by
      rw [Nat.add_mul_div_left _ _ (by omega), Nat.div_eq_of_lt hd, Nat.zero_add]
    have e3 : (d + b * vall b (e :: l)) % b = d := by
      rw [Nat.add_mul_mod_self_left, Nat.mod_eq_of_lt hd]
    have hge : b ≤ d + b * vall b (e :: l) := by
      have : b * 1 ≤ b * vall b (e :: l) := Nat.mul_le_mul_left b hpos
      omega
    rw [e1, digs_ge hb hge, e2, e3, ih]
theorem foldl_val (b : Nat) : ∀ (l : List Nat) (a : Nat), l.foldl (fun a d => a * b + d) a = a * b ^ l.length + val b l
  | [], a => by simp [val]
  | d :: l, a => by
    unfold val
    rw [List.foldl_cons, List.foldl_cons, foldl_val b l (a * b + d), foldl_val b l (0 * b + d)]
    simp only [List.length_cons, Nat.pow_succ, Nat.zero_mul, Nat.zero_add, Nat.add_mul]
    rw [Nat.mul_assoc, Nat.mul_comm b, Nat.add_assoc]
theorem val_append (b : Nat) (l m : List Nat) : val b (l ++ m) = val b l * b ^ m.length + val b m := by
  unfold val
  rw [List.foldl_append, foldl_val]
  rfl
theorem val_one (b d : Nat) : val b [d] = d := by simp [val]
theorem val_cons (b d : Nat) (l : List Nat) : val b (d :: l) = d * b ^ l.length + val b l := by
  have := val_append b [d] l
  rw [val_one] at this
  exact this
theorem val_reverse (b : Nat) : ∀ l : List Nat, val b l.reverse = vall b l
  | [] => rfl
  | d :: l => by
    rw [List.reverse_cons, val_append, val_one, val_reverse b l]
    simp only [List.length_singleton, Nat.pow_one, vall]
    rw [Nat.mul_comm, Nat.add_comm]
theorem val_figs {b : Nat} (hb : 2 ≤ b) (n : Nat) : val b (figs b n) = n := by
  unfold figs
  rw [val_reverse, vall_digs hb]
theorem figs_bd {b : Nat} (hb : 2 ≤ b) (n : Nat) : ∀ d ∈ figs b n, d < b := fun d hd => digs_bd hb n d (List.mem_reverse.mp hd)
theorem figs_ne {b n : Nat} : figs b n ≠ [] := by
  unfold figs
  rw [ne_eq, List.reverse_eq_nil_iff]
  exact digs_ne
theorem figs_head {b : Nat} (hb : 2 ≤ b) (n : Nat) (hn : 0 < n) : ∀ d, (figs b n).head? = some d → 0 < d := by
  intro d hd
  unfold figs at hd
  rw [List.head?_reverse] at hd
  exact digs_last hb n hn d hd
theorem figs_val {b : Nat} (hb : 2 ≤ b) (l : List Nat) (h0 : l ≠ []) (h1 : ∀ d ∈ l, d < b) (h2 : l.length = 1 ∨ ∀ d, l.head? = some d → 0 < d) : figs b (val b l) = l := by
  have e : val b l = vall b l.reverse := by rw [← val_reverse, List.reverse_reverse]
  unfold figs
  rw [e, digs_vall hb l.reverse (by rw [ne_eq, List.reverse_eq_nil_iff]; exact h0) (fun d hd => h1 d (List.mem_reverse.mp hd)) (by
    rcases h2 with h | h
    · exact Or.inl (by rw [List.length_reverse]; exact h)
    · exact Or.inr fun d hd => h d (by rw [List.getLast?_reverse] at hd; exact hd)), List.reverse_reverse]
theorem val_lt {b : Nat} (hb : 0 < b) : ∀ (l : List Nat), (∀ d ∈ l, d < b) → val b l < b ^ l.length
  | [], _ => by simp [val]
  | d :: l, h => by
    rw [val_cons, List.length_cons, Nat.pow_succ]
    have h1 := val_lt hb l (fun x hx => h x (List.mem_cons_of_mem _ hx))
    have h2 : d < b := h d (by simp)
    calc d * b ^ l.length + val b l < d * b ^ l.length + b ^ l.length := Nat.add_lt_add_left h1 _
      _ = (d + 1) * b ^ l.length := by rw [Nat.add_mul, Nat.one_mul]
      _ ≤ b * b ^ l.length := Nat.mul_le_mul_right _ h2
      _ = b ^ l.length * b := Nat.mul_comm _ _
theorem figs_len_pos {b n : Nat} : 0 < (figs b n).length := List.length_pos_iff.mpr figs_ne
theorem lt_pow_figs {b : Nat} (hb : 2 ≤ b) (n : Nat) : n < b ^ (figs b n).length := by
  have := val_lt (by omega) (figs b n) (figs_bd hb n)
  rwa [val_figs hb] at this
theorem pow_le_figs {b : Nat} (hb : 2 ≤ b) (n : Nat) (hn : 0 < n) : b ^ ((figs b n).length - 1) ≤ n := by
  cases e : figs b n with
  | nil => exact absurd e figs_ne
  | cons d l =>
    have h := figs_head hb n hn d (by rw [e]; rfl)
    have v := val_figs hb n
    rw [e, val_cons] at v
    rw [List.length_cons, Nat.add_sub_cancel]
    calc b ^ l.length = 1 * b ^ l.length := (Nat.one_mul _).symm
      _ ≤ d * b ^ l.length := Nat.mul_le_mul_right _ h
      _ ≤ n := by omega
/-- how long -/
theorem figs_len {b : Nat} (hb : 2 ≤ b) {n k : Nat} (h : n < b ^ k) (hk : 0 < k) : (figs b n).length ≤ k := by
  by_cases hn : n = 0
  · subst hn
    have : figs b 0 = [0] := by
      unfold figs
      rw [digs_lt (by omega)]
      rfl
    rw [this]
    exact hk
  · have h1 := pow_le_figs hb n (by omega)
    have h2 : (figs b n).length - 1 < k := (Nat.pow_lt_pow_iff_right hb).mp (Nat.lt_of_le_of_lt h1 h)
    omega
def lim : Nat := 10 ^ 200
theorem lim_pow : lim < 2 ^ 700 := by decide +kernel
theorem figs_len_lim {b n : Nat} (hb : 2 ≤ b) (h : n < lim) : (figs b n).length ≤ 700 :=
  figs_len hb (Nat.lt_of_lt_of_le (Nat.lt_trans h lim_pow) (Nat.pow_le_pow_left hb 700)) (by decide)
theorem digs_len_lim {b n : Nat} (hb : 2 ≤ b) (h : n < lim) : (digs b n).length ≤ 700 := by
  have := figs_len_lim hb h
  unfold figs at this
  rwa [List.length_reverse] at this
/-- mirrored -/
def mir (b n : Nat) : Bool := decide (figs b n = (figs b n).reverse)
end Mi

/-! what the defs promise, first part -/
namespace Mi
open PySem PySem.Spec PyProof.Rows L2

/-- a thing's type, as isinstance asks it -/
abbrev TyY (K : PySem.W.Frag) (H : Hp) : V → Value → Prop := TyV K H
def rIsiY (K : PySem.W.Frag) : List V → Hp → VK → Prop := fun xs H Q => ∃ (x c : V) (t u : Value) (b : Bool), xs = [x, c] ∧ ClsV c u ∧ TyY K H x t ∧ PySem.W.kitOne K t u = some b ∧ Q (.bl b) H
theorem call_isiY {X : Cx} : CallR X (.builtin "isinstance") (rIsiY X.K) := by
  intro pins s σ H xs us Q I r h
  obtain ⟨x, c, t, u, b, rfl, k, ty, e, q⟩ := h
  obtain ⟨u1, u2, rfl, r1, r2⟩ := vals2 r
  cases k.eq r2
  obtain ⟨P, Z, p, hx⟩ := kit_ofV I r1 ty
  exact PySem.W.kia_one Z I.kIn p e hx fun tk => ⟨.bl b, H, I.tok tk, rfl, q⟩
/-- a thing of which it is known that it is no int, by its type, if it is none by its form -/
def Kn (K : PySem.W.Frag) (H : Hp) : V → Prop
  | .ref a => ∃ t, TyY K H (.ref a) t ∧ PySem.W.kitOne K t (.type "int") = some false ∧ PySem.W.kitOne K t (.type "bool") = some false
  | .non => True
  | .bl _ => True
  | .int _ => True
  | .str _ => True
  | _ => False
def isInt : V → Bool
  | .int _ => true
  | _ => false
def isIB : V → Bool
  | .int _ => true
  | .bl _ => true
  | _ => false
def isBl : V → Bool
  | .bl _ => true
  | _ => false
theorem kn_int {K : PySem.W.Frag} {H : Hp} {x : V} (h : Kn K H x) : ∃ t, TyY K H x t ∧ PySem.W.kitOne K t (.type "int") = some (isIB x) := by
  cases x with
  | ref a =>
    obtain ⟨t, h1, h2, _⟩ := h
    exact ⟨t, h1, h2⟩
  | non => exact ⟨_, .inl (.base .non), kit_ty (by decide +kernel)⟩
  | bl b => exact ⟨_, .inl (.base (.bl b)), kit_ty (r := true) (by decide +kernel)⟩
  | int i => exact ⟨_, .inl (.base (.int i)), kit_ty (r := true) (by decide +kernel)⟩
  | str s => exact ⟨_, .inl (.base (.str s)), kit_ty (r := false) (by decide +kernel)⟩
  | _ => exact h.elim
theorem kn_bool {K : PySem.W.Frag} {H : Hp} {x : V} (h : Kn K H x) : ∃ t, TyY K H x t ∧ PySem.W.kitOne K t (.type "bool") = some (isBl x) := by
  cases x with
  | ref a =>
    obtain ⟨t, h1, _, h2⟩ := h
    exact ⟨t, h1, h2⟩
  | non => exact ⟨_, .inl (.base .non), kit_ty (by decide +kernel)⟩
  | bl b => exact ⟨_, .inl (.base (.bl b)), kit_ty (r := true) (by decide +kernel)⟩
  | int i => exact ⟨_, .inl (.base (.int i)), kit_ty (r := false) (by decide +kernel)⟩
  | str s => exact ⟨_, .inl (.base (.str s)), kit_ty (r := false) (by decide +kernel)⟩
  | _ => exact h.elim
theorem isi_int {K : PySem.W.Frag} {H : Hp} {x : V} {Q : VK} (h : Kn K H x) (q : Q (.bl (isIB x)) H) : rIsiY K [x, .ty "int"] H Q := by
  obtain ⟨t, h1, h2⟩ := kn_int h
  exact ⟨x, .ty "int", t, .type "int", _, rfl, .ty _, h1, h2, q⟩
theorem isi_bool {K : PySem.W.Frag} {H : Hp} {x : V} {Q : VK} (h : Kn K H x) (q : Q (.bl (isBl x)) H) : rIsiY K [x, .ty "bool"] H Q := by
  obtain ⟨t, h1, h2⟩ := kn_bool h
  exact ⟨x, .ty "bool", t, .type "bool", _, rfl, .ty _, h1, h2, q⟩
theorem isi_list {K : PySem.W.Frag} {H : Hp} {a : Addr} {xs : List V} {Q : VK} (h : H a = some (.lst xs)) (q : Q (.bl true) H) : rIsiY K [.ref a, .ty "list"] H Q :=
  ⟨.ref a, .ty "list", _, .type "list", _, rfl, .ty _, .inl (.base (.lst h)), kit_ty (by decide +kernel), q⟩
theorem _root_.L2.TyX.mono_ {K : PySem.W.Frag} {B H : Hp} {F : List (Addr × HO)} {x : V} {t : Value} (L : Led B F H) (h1 : TyX K B x t) : TyX K H x t := by
  cases h1 with
  | base b =>
    refine .base ?_
    cases b with
    | non => exact .non
    | bl b => exact .bl b
    | int i => exact .int i
    | str i => exact .str i
    | flt i => exact .flt i
    | lst e => exact .lst (L.base _ _ e)
    | frz e => exact .frz (L.base _ _ e)
    | tup e => exact .tup (L.base _ _ e)
    | dK e => exact .dK (L.base _ _ e)
    | dT e => exact .dT (L.base _ _ e)
    | ins e a b c d f => exact .ins (L.base _ _ e) a b c d f
  | byt b => exact .byt b
  | set e => exact .set (L.base _ _ e)
  | kList e c => exact .kList e c
  | kTuple e c => exact .kTuple e c
  | kDict e c => exact .kDict e c
  | fTuple e => exact .fTuple (L.base _ _ e)
  | fDict e => exact .fDict (L.base _ _ e)
theorem _root_.Mi.TyV.mono {K : PySem.W.Frag} {B H : Hp} {F : List (Addr × HO)} {x : V} {t : Value} (L : Led B F H) (h1 : TyV K B x t) : TyV K H x t := by
  rcases h1 with h | ⟨a, e1, e2, h⟩
  · exact .inl (h.mono_ L)
  · exact .inr ⟨a, e1, e2, L.base _ _ h⟩
theorem Kn.mono {K : PySem.W.Frag} {B H : Hp} {F : List (Addr × HO)} {x : V} (L : Led B F H) (h : Kn K B x) : Kn K H x := by
  cases x with
  | ref a =>
    obtain ⟨t, h1, h2⟩ := h
    exact ⟨t, h1.mono L, h2⟩
  | _ => exact h
def isBase : V → Bool
  | .int b => decide (2 ≤ b) && decide (b ≤ 36)
  | _ => false
/-- ints from naturals -/
def nints (l : List Nat) : List V := (l.map fun (d : Nat) => (d : Int)).map V.int

section

def sp_is_whole (K : PySem.W.Frag) (C : Str → Addr) : Sp := fun vs H Q E => ∃ x, vs = [x] ∧ Kn K H x ∧ Q (.bl (isInt x)) H
def sp_need_base (K : PySem.W.Frag) (C : Str → Addr) : Sp := fun vs H Q E => ∃ x, vs = [x] ∧ Kn K H x ∧ (isBase x = true → Q .non H) ∧ (isBase x = false → E (.ref (C "NoBase")) none H)
def sp_figures_of (K : PySem.W.Frag) (C : Str → Addr) : Sp := fun vs H Q E => ∃ n b : Nat, vs = [.int n, .int b] ∧ 2 ≤ b ∧ b ≤ 36 ∧ n < lim ∧ ∀ p H', Led H [(p, .lst (nints (figs b n)))] H' → Q (.ref p) H'
def sp_put_together (K : PySem.W.Frag) (C : Str → Addr) : Sp := fun vs H Q E => ∃ (a : Addr) (l : List Nat) (b : Nat), vs = [.ref a, .int b] ∧ SqL K H a (nints l) ∧ b ≤ 36 ∧ Q (.int (val b l)) H
def sp_figures (K : PySem.W.Frag) (C : Str → Addr) : Sp := fun vs H Q E => ∃ (n : Nat) (x : V), vs = [.int n, x] ∧ Kn K H x ∧ n < lim ∧ (isBase x = false → E (.ref (C "NoBase")) none H) ∧ ∀ b : Nat, x = .int b → 2 ≤ b → b ≤ 36 → ∀ p H', Led H [(p, .lst (nints (figs b n)))] H' → Q (.ref p) H'
/-- of a list of whole numbers that are figures -/
def sp_number_of (K : PySem.W.Frag) (C : Str → Addr) : Sp := fun vs H Q E => ∃ (a : Addr) (l : List Nat) (b : Nat), vs = [.ref a, .int b] ∧ H a = some (.lst (nints l)) ∧ 2 ≤ b ∧ b ≤ 36 ∧ l ≠ [] ∧ (∀ d ∈ l, d < b) ∧ (l.length = 1 ∨ ∀ d, l.head? = some d → 0 < d) ∧ l.length ≤ 1000000 ∧ ∀ H', Led H [] H' → Q (.int (val b l)) H'
/-- the draws: what is drawn lies below the limit -/
def Hand (H : Hp) (a : Addr) : Prop := ∃ d m : Nat, m < 2147483587 ∧ H a = some (.lst [.int d, .int m])
def sp__law_hand (K : PySem.W.Frag) (C : Str → Addr) : Sp := fun vs H Q E => ∃ (c : Int) (k : Nat), vs = [.int c, .int k] ∧ k ≤ 1000 ∧ ∀ p H' (d m : Nat), m < 2147483587 → Led H [(p, .lst [.int d, .int m])] H' → Q (.ref p) H'
def sp__law_draw (K : PySem.W.Frag) (C : Str → Addr) : Sp := fun vs H Q E => ∃ (a : Addr) (d m l : Nat), vs = [.ref a, .int l] ∧ H a = some (.lst [.int d, .int m]) ∧ m < 2147483587 ∧ 0 < l ∧ l < 1073741824 ∧
  ∀ H' (d' m' g : Nat), m' < 2147483587 → g < l → Led (rmv H a) [(a, .lst [.int d', .int m'])] H' → Q (.int g) H'
def sp__law_cells (K : PySem.W.Frag) (C : Str → Addr) : Sp := fun vs H Q E => ∃ (a : Addr) (ns : List Int) (m : Nat), vs = [.ref a, .int m] ∧ SqL K H a (ns.map V.int) ∧ ns.length ≤ 63 ∧ m ≤ 63 ∧
  ∀ P as (cs : List Int) H', as.length = cs.length → cs.length ≤ 64 → Led H ((P, .lst (as.map V.ref)) :: enF as (cs.map V.int)) H' → Q (.ref P) H'
def sp__law_base (K : PySem.W.Frag) (C : Str → Addr) : Sp := fun vs H Q E => ∃ (a : Addr) (d m : Nat), vs = [.ref a] ∧ H a = some (.lst [.int d, .int m]) ∧ m < 2147483587 ∧
  ∀ H' (d' m' b : Nat), m' < 2147483587 → 2 ≤ b → b ≤ 36 → Led (rmv H a) [(a, .lst [.int d', .int m'])] H' → Q (.int b) H'
def sp__law_power (K : PySem.W.Frag) (C : Str → Addr) : Sp := fun vs H Q E => ∃ b m : Nat, vs = [.int b, .int m] ∧ b ≤ 36 ∧ m ≤ 100000 ∧ Q (.int ((b ^ m : Nat))) H
def sp__law_figures (K : PySem.W.Frag) (C : Str → Addr) : Sp := sp_figures_of K C
def sp__law_value (K : PySem.W.Frag) (C : Str → Addr) : Sp := fun vs H Q E => ∃ (a : Addr) (l : List Nat) (b : Nat), vs = [.ref a, .int b] ∧ SqL K H a (nints l) ∧ b ≤ 36 ∧ (∀ d ∈ l, d ≤ 36) ∧ l.length ≤ 100000 ∧ ∀ H', Led H [] H' → Q (.int (val b l)) H'
end
end Mi

namespace Mi
open PySem PySem.Spec PyProof.Rows L2
def t_is_whole (K : PySem.W.Frag) (C : Str → Addr) (E : XK) : TS :=
  (tRet (tAndV (tCB (rIsiY K) (tCons (tVar 0) (tCons (tC (.ty "int")) tNil))) (tNotV (tCB (rIsiY K) (tCons (tVar 0) (tCons (tC (.ty "bool")) tNil))))))
def t_need_base (K : PySem.W.Frag) (C : Str → Addr) (E : XK) : TS :=
  (tIfS (tOr (tNot (tB (tGo (sp_is_whole K C) (fun _ => E0) (tCons (tVar 0) tNil)))) (tNot (tTest (tChain (rI0 fun i j => .bl (decide (i ≤ j))) (rI0 fun i j => .bl (decide (i ≤ j))) (tC (.int 2)) (tVar 0) (tC (.int 36)))))) (tRaise0 E (.ref (C "NoBase"))) tNext)
def t_put_together (K : PySem.W.Frag) (C : Str → Addr) (E : XK) : TS :=
  (tSeq (tAsg (tC (.int 0)) (gName 2))
    (tSeq (tFor (iList K (tVar 0)) (gName 3) (tAsg (tOp (rI0 fun i j => .int (i + j)) (tOp (rI CMul fun i j => .int (i * j)) (tVar 2) (tVar 1)) (tVar 3)) (gName 2)))
    (tRet (tVar 2))))
def t_number_of (K : PySem.W.Frag) (C : Str → Addr) (E : XK) : TS :=
  (tSeq (tDrop (tGo (sp_need_base K C) (fun _ => E) (tCons (tVar 1) tNil)))
    (tSeq (tIfS (tOr (tNot (tB (tCB (rIsiY K) (tCons (tVar 0) (tCons (tC (.ty "list")) tNil))))) (tOr (tTest (tOp (rEqLI K false) (tVar 0) (tLst tNil))) (tTest (tOp (rEqLI K true) (tLc (iList K (tVar 0)) (gName 2) (tNot (tB (tGo (sp_is_whole K C) (fun _ => E0) (tCons (tVar 2) tNil)))) (tVar 2) [2]) (tLst tNil))))) (tRaise0 E (.ref (C "NoNumber"))) tNext)
    (tSeq (tIfS (tOr (tTest (tOp (rEqLI K true) (tLc (iList K (tVar 0)) (gName 2) (tNot (tTest (tChain (rI0 fun i j => .bl (decide (i ≤ j))) (rI0 fun i j => .bl (decide (i < j))) (tC (.int 0)) (tVar 2) (tVar 1)))) (tVar 2) [2]) (tLst tNil))) (tAnd (tTest (tOp rEq (tOp (rIxL K) (tVar 0) (tC (.int 0))) (tC (.int 0)))) (tTest (tOp (rI0 fun i j => .bl (decide (j < i))) (tCB (rLenL K) (tCons (tVar 0) tNil)) (tC (.int 1)))))) (tRaise0 E (.ref (C "NoNumber"))) tNext)
    (tRet (tGo (sp_put_together K C) (fun _ => E0) (tCons (tVar 0) (tCons (tVar 1) tNil)))))))
def t__law_hand (K : PySem.W.Frag) (C : Str → Addr) (E : XK) : TS :=
  (tSeq (tAsg (tC (.int 0)) (gName 2))
    (tSeq (tIfS (tTest (tOp (rI0 fun i j => .bl (decide (j ≤ i))) (tVar 0) (tOp (rI CPow fun i j => .int (i ^ j.toNat)) (tC (.int 10)) (tC (.int 18))))) (tAsg (tVar 0) (gName 2)) tNext)
    (tRet (tLst (tCons (tVar 2) (tCons (tOp (rI (fun _ j => 0 < j) fun i j => .int (i % j)) (tOp (rI CMul fun i j => .int (i * j)) (tOp (rI0 fun i j => .int (i + j)) (tOp (rI0 fun i j => .int (i + j)) (tOp (rI (fun _ j => 0 < j) fun i j => .int (i % j)) (tVar 0) (tC (.int 2147483587))) (tOp (rI CMul fun i j => .int (i * j)) (tC (.int 7919)) (tVar 1))) (tC (.int 1))) (tC (.int 48271))) (tC (.int 2147483587))) tNil))))))
def t__law_draw (K : PySem.W.Frag) (C : Str → Addr) (E : XK) : TS :=
  (tSeq (tIfS (tTest (tOp (rI0 fun i j => .bl (decide (j < i))) (tOp (rIxL K) (tVar 0) (tC (.int 0))) (tC (.int 0)))) (tSeq (tAsg (tOp (rI (fun _ j => 0 < j) fun i j => .int (i % j)) (tOp (rIxL K) (tVar 0) (tC (.int 0))) (tVar 1)) (gName 2))
    (tSeq (tAsg (tOp (rI CDiv fun i j => .int (i / j)) (tOp (rIxL K) (tVar 0) (tC (.int 0))) (tVar 1)) (gSub (tVar 0) (tC (.int 0)) rSetL))
    (tRet (tVar 2)))) tNext)
    (tSeq (tAsg (tOp (rI (fun _ j => 0 < j) fun i j => .int (i % j)) (tOp (rI0 fun i j => .int (i + j)) (tOp (rI0 fun i j => .int (i + j)) (tOp (rI CMul fun i j => .int (i * j)) (tOp (rIxL K) (tVar 0) (tC (.int 1))) (tOp (rIxL K) (tVar 0) (tC (.int 1)))) (tOp (rI CMul fun i j => .int (i * j)) (tC (.int 69621)) (tOp (rIxL K) (tVar 0) (tC (.int 1))))) (tC (.int 12345))) (tC (.int 2147483587))) (gSub (tVar 0) (tC (.int 1)) rSetL))
    (tRet (tOp (rI (fun _ j => 0 < j) fun i j => .int (i % j)) (tOp (rI CDiv fun i j => .int (i / j)) (tOp (rIxL K) (tVar 0) (tC (.int 1))) (tC (.int 8))) (tVar 1)))))
def t__law_cells (K : PySem.W.Frag) (C : Str → Addr) (E : XK) : TS :=
  (tRet (tListEnum K (tOp rCat (tSl (rSlL K) (tVar 0) tNoPart (tPart (tVar 1))) (tOp rRep (tLst (tCons (tC (.int 0)) tNil)) (tCB rInt1 (tCons (tOp (rEqLI K false) (tVar 0) (tLst tNil)) tNil))))))
def t__law_base (K : PySem.W.Frag) (C : Str → Addr) (E : XK) : TS :=
  (tSeq (tAsg (tOp (rIxL K) (tLst (tCons (tC (.int 2)) (tCons (tC (.int 36)) (tCons (tC (.int 3)) (tCons (tC (.int 16)) tNil))))) (tGo (sp__law_draw K C) (fun _ => E0) (tCons (tVar 0) (tCons (tC (.int 4)) tNil)))) (gName 1))
    (tRet (tOp (rIxL K) (tLst (tCons (tOp (rI0 fun i j => .int (i + j)) (tC (.int 2)) (tGo (sp__law_draw K C) (fun _ => E0) (tCons (tVar 0) (tCons (tC (.int 35)) tNil)))) (tCons (tC (.int 10)) (tCons (tOp (rI0 fun i j => .int (i + j)) (tC (.int 2)) (tGo (sp__law_draw K C) (fun _ => E0) (tCons (tVar 0) (tCons (tC (.int 35)) tNil)))) (tCons (tVar 1) tNil))))) (tGo (sp__law_draw K C) (fun _ => E0) (tCons (tVar 0) (tCons (tC (.int 4)) tNil))))))
def t__law_power (K : PySem.W.Frag) (C : Str → Addr) (E : XK) : TS :=
  (tSeq (tAsg (tC (.int 1)) (gName 2))
    (tSeq (tFor (iRng1 (tCons (tVar 1) tNil)) (gName 3) (tAsg (tOp (rI CMul fun i j => .int (i * j)) (tVar 2) (tVar 0)) (gName 2)))
    (tRet (tVar 2))))
def t__law_figures (K : PySem.W.Frag) (C : Str → Addr) (E : XK) : TS :=
  (tSeq (tAsg (tLst (tCons (tOp (rI (fun _ j => 0 < j) fun i j => .int (i % j)) (tVar 0) (tVar 1)) tNil)) (gName 2))
    (tSeq (tAsg (tOp (rI CDiv fun i j => .int (i / j)) (tVar 0) (tVar 1)) (gName 3))
    (tSeq (tWhile (tTest (tOp (rI0 fun i j => .bl (decide (j < i))) (tVar 3) (tC (.int 0)))) (tSeq (tDrop (tBM K "list" rAppend (tVar 2) (tCons (tOp (rI (fun _ j => 0 < j) fun i j => .int (i % j)) (tVar 3) (tVar 1)) tNil)))
    (tAsg (tOp (rI CDiv fun i j => .int (i / j)) (tVar 3) (tVar 1)) (gName 3))))
    (tRet (tRevL K (tVar 2))))))
def t__law_value (K : PySem.W.Frag) (C : Str → Addr) (E : XK) : TS :=
  (tRet (tCB (rSum K) (tCons (tLc (iEnum K (tCons (tVar 0) tNil)) (gTup K 2 (gCons (gName 2) (gCons (gName 3) gNil))) tYes (tOp (rI CMul fun i j => .int (i * j)) (tVar 3) (tGo (sp__law_power K C) (fun _ => E0) (tCons (tVar 1) (tCons (tOp (rI0 fun i j => .int (i - j)) (tOp (rI0 fun i j => .int (i - j)) (tCB (rLenL K) (tCons (tVar 0) tNil)) (tC (.int 1))) (tVar 2)) tNil)))) [2, 3]) tNil)))
def t_figures_of (K : PySem.W.Frag) (C : Str → Addr) (E : XK) : TS :=
  (tSeq (tAsg (tLst (tCons (tOp (rI (fun _ j => 0 < j) fun i j => .int (i % j)) (tVar 0) (tVar 1)) tNil)) (gName 2))
    (tSeq (tWhile (tTest (tOp (rI0 fun i j => .bl (decide (j ≤ i))) (tVar 0) (tVar 1))) (tSeq (tAug 0 (tVar 1) (rI CDiv fun i j => .int (i / j)))
    (tDrop (tBM K "list" rAppend (tVar 2) (tCons (tOp (rI (fun _ j => 0 < j) fun i j => .int (i % j)) (tVar 0) (tVar 1)) tNil)))))
    (tRet (tRevL K (tVar 2)))))
def t_figures (K : PySem.W.Frag) (C : Str → Addr) (E : XK) : TS :=
  (tSeq (tDrop (tGo (sp_need_base K C) (fun _ => E) (tCons (tVar 1) tNil)))
    (tRet (tGo (sp_figures_of K C) (fun _ => E0) (tCons (tVar 0) (tCons (tVar 1) tNil)))))
end Mi

namespace Mi
open PySem PySem.Spec PyProof.Rows L2
local macro_rules
  | `(tactic| walk_at "w") => `(tactic| try simp only [a_seq, a_next, a_asg, a_name, a_var, a_c, a_op, a_un, a_rI, a_rI0, a_rU, a_ret, a_retN, a_ifS, a_drop, a_aug, a_ipI, a_test, a_B, a_and, a_or, a_not, a_andV, a_orV, a_notV, a_ifE, a_nil, a_cons, a_lst, a_tup, a_cb, a_go, a_bm, a_bm0, a_sl, a_po, a_pn,
      a_gsub, a_gnil, a_gcons, a_gtup, a_chain, a_eq, a_ne, a_yes, a_revL, a_slL, a_ixL, a_ixT, a_append, a_setL, a_cat, a_for, a_lc, a_iL, a_iT, a_iR1, a_iR2, a_iE, a_iZ, a_iS, b_lenL, b_int1b, b_int1i, b_listOf, b_max2, b_min2, b_sum, b_rep, b_eqLI0, b_eqLI1, b_isN, b_notN, b_listEnum, b_raise0,
      List.getElem?_cons_zero, List.getElem?_cons_succ, List.set_cons_zero, List.set_cons_succ, Option.some.injEq, V.int.injEq, V.ref.injEq, V.bl.injEq, V.str.injEq, List.cons.injEq, and_true, true_and, exists_eq_left', exists_eq_left, exists_eq_right, exists_eq_right', exists_and_left, exists_eq', exists_eq, decide_eq_true_eq, scal_ii, scal_bb, scal_ss, wipe, ↓reduceIte, reduceCtorEq,
      Bool.not_eq_true', decide_eq_false_iff_not, List.length_cons, List.length_nil, Nat.zero_add, CDiv, CMul, CPow])
local macro_rules
  | `(tactic| walk_at "z") => `(tactic| first | omega | (rw [sizeLine_eq]; simp only [List.length_append, List.length_map, List.length_cons, List.length_nil, List.length_reverse, nints]; omega) | decide | (simp only [List.length_append, List.length_map, List.length_cons, List.length_nil]; omega))
section
variable {K : PySem.W.Frag} {C : Str → Addr} {H : Hp} {Q : VK} {E : XK} {vs : List V}
abbrev fin (Q : VK) : Ends := { nx := fun _ H' => Q .non H', rt := Q }
theorem rd_is_whole (h : sp_is_whole K C vs H Q E) : t_is_whole K C E (fin Q) (start ["thing"] vs) H := by
  obtain ⟨x, rfl, hk, q⟩ := h
  show t_is_whole K C E (fin Q) [some x] H
  unfold t_is_whole
  walk_at "w"
  refine isi_int hk ⟨_, rfl, ?_⟩
  cases x with
  | bl b =>
    refine iteT ?_
    refine isi_bool (x := .bl b) trivial ?_
    exact ⟨_, rfl, q⟩
  | int i =>
    refine iteT ?_
    refine isi_bool (x := .int i) trivial ?_
    exact ⟨_, rfl, q⟩
  | _ => first | exact hk.elim | exact q
theorem rd_need_base (h : sp_need_base K C vs H Q E) : t_need_base K C E (fin Q) (start ["base"] vs) H := by
  obtain ⟨x, rfl, hk, q, r⟩ := h
  show t_need_base K C E (fin Q) [some x] H
  unfold t_need_base
  walk_at "w"
  refine ⟨x, rfl, hk, _, rfl, ?_⟩
  cases x with
  | int i =>
    simp only [isInt, Bool.not_true, Bool.false_eq_true, if_false]
    walk_at "w"
    by_cases h1 : 2 ≤ i
    · rw [if_pos h1]
      by_cases h2 : i ≤ 36
      · have e : isBase (.int i) = true := by simp [isBase, h1, h2]
        simp only [h2, decide_true, Bool.not_true, Bool.false_eq_true, if_false]
        exact q e
      · have e : isBase (.int i) = false := by simp [isBase, h2]
        simp only [h2, decide_false, Bool.not_false, if_true]
        exact r e
    · rw [if_neg h1]
      have e : isBase (.int i) = false := by simp [isBase, h1]
      exact r e
  | _ => exact r rfl
theorem rd_figures_of (h : sp_figures_of K C vs H Q E) : t_figures_of K C E (fin Q) (start ["number", "base", "found"] vs) H := by
  obtain ⟨n, b, rfl, hb, hb2, hn, q⟩ := h
  show t_figures_of K C E (fin Q) [some (.int n), some (.int b), none] H
  unfold t_figures_of
  walk_at "w"
  refine ⟨by omega, by decide, fun p hp => ?_⟩
  have L0 := (Led.refl H).new (o := .lst [.int ((n : Int) % b)]) hp
  refine whl (fun m σ H1 => ∃ (x : Nat) (l : List Nat), m = x ∧ x ≤ n ∧ digs b n = l ++ digs b x ∧ σ = [some (.int x), some (.int b), some (.ref p)] ∧ Led H [(p, .lst (nints (l ++ [x % b])))] H1) n ⟨n, [], rfl, Nat.le_refl _, rfl, rfl, ?_⟩ ?_
  · have e : nints ([] ++ [n % b]) = [V.int ((n : Int) % b)] := by simp [nints]
    rw [e]
    exact L0
  · rintro N hN m σ H1 ⟨x, l, em, hx, e, rfl, L⟩
    have em := em.symm
    subst em
    have hlen : l.length ≤ 700 := by
      have := digs_len_lim hb hn
      rw [e, List.length_append] at this
      omega
    walk_at "w"
    by_cases hc : (b : Int) ≤ x
    · rw [if_pos hc]
      refine whb ?_
      walk_at "w"
      have hc' : b ≤ x := by omega
      refine ⟨⟨by omega, by omega⟩, .inl ⟨rfl, _, L.sqI 0 rfl⟩, by omega, _, L.get 0 rfl, by walk_at "z", x / b, Nat.div_lt_self (by omega) (by omega), hN _ _ _ ⟨x / b, l ++ [x % b], rfl, ?_, ?_, ?_, ?_⟩⟩
      · exact Nat.le_trans (Nat.div_le_self _ _) hx
      · rw [e, digs_ge hb hc', List.append_assoc]
        rfl
      · simp
      · have L2 := L.put (o' := .lst (nints (l ++ [x % b]) ++ [V.int ((x : Int) / b % b)])) 0 rfl
        have e2 : nints (l ++ [x % b] ++ [x / b % b]) = nints (l ++ [x % b]) ++ [V.int ((x : Int) / b % b)] := by simp [nints]
        rw [e2]
        exact L2
    · rw [if_neg hc]
      refine ⟨_, L.sqI 0 rfl, fun p2 hp2 => ?_⟩
      have ex : x % b = x := Nat.mod_eq_of_lt (by omega)
      have e3 : (nints (l ++ [x % b])).reverse = nints (figs b n) := by
        unfold figs
        rw [e, digs_lt (show x < b by omega), ex]
        simp [nints]
      rw [e3]
      exact q _ _ ((L.new hp2).one 0 rfl)
end
end Mi

namespace Mi
open PySem PySem.Spec PyProof.Rows L2
local macro_rules
  | `(tactic| walk_at "w") => `(tactic| try simp only [a_seq, a_next, a_asg, a_name, a_var, a_c, a_op, a_un, a_rI, a_rI0, a_rU, a_ret, a_retN, a_ifS, a_drop, a_aug, a_ipI, a_test, a_B, a_and, a_or, a_not, a_andV, a_orV, a_notV, a_ifE, a_nil, a_cons, a_lst, a_tup, a_cb, a_go, a_bm, a_bm0, a_sl, a_po, a_pn,
      a_gsub, a_gnil, a_gcons, a_gtup, a_chain, a_eq, a_ne, a_yes, a_revL, a_slL, a_ixL, a_ixT, a_append, a_setL, a_cat, a_for, a_lc, a_iL, a_iT, a_iR1, a_iR2, a_iE, a_iZ, a_iS, b_lenL, b_int1b, b_int1i, b_listOf, b_max2, b_min2, b_sum, b_rep, b_eqLI0, b_eqLI1, b_isN, b_notN, b_listEnum, b_raise0,
      List.getElem?_cons_zero, List.getElem?_cons_succ, List.set_cons_zero, List.set_cons_succ, Option.some.injEq, V.int.injEq, V.ref.injEq, V.bl.injEq, V.str.injEq, List.cons.injEq, and_true, true_and, exists_eq_left', exists_eq_left, exists_eq_right, exists_eq_right', exists_and_left, exists_eq', exists_eq, decide_eq_true_eq, scal_ii, scal_bb, scal_ss, wipe, ↓reduceIte, reduceCtorEq,
      Bool.not_eq_true', decide_eq_false_iff_not, List.length_cons, List.length_nil, Nat.zero_add, CDiv, CMul, CPow])
local macro_rules
  | `(tactic| walk_at "z") => `(tactic| first | omega | (rw [sizeLine_eq]; simp only [List.length_append, List.length_map, List.length_cons, List.length_nil, List.length_reverse, nints]; omega) | decide | (simp only [List.length_append, List.length_map, List.length_cons, List.length_nil]; omega))
section
variable {K : PySem.W.Frag} {C : Str → Addr} {H : Hp} {Q : VK} {E : XK} {vs : List V}
theorem nints_get {l : List Nat} {i : Nat} {x : V} (h : (nints l)[i]? = some x) : ∃ d, l[i]? = some d ∧ x = .int (d : Nat) := by
  unfold nints at h
  rw [List.map_map, List.getElem?_map] at h
  cases e : l[i]? with
  | none =>
    rw [e] at h
    cases h
  | some d =>
    rw [e] at h
    cases h
    exact ⟨d, rfl, rfl⟩
theorem nints_len (l : List Nat) : (nints l).length = l.length := by simp [nints]
theorem take_get {α : Type} {l : List α} {i : Nat} {d : α} (h : l[i]? = some d) : l.take (i + 1) = l.take i ++ [d] := by
  rw [List.take_add_one, h]
  rfl
theorem rd_put_together (h : sp_put_together K C vs H Q E) : t_put_together K C E (fin Q) (start ["some", "base", "number", "figure"] vs) H := by
  obtain ⟨a, l, b, rfl, hS, hb, q⟩ := h
  show t_put_together K C E (fin Q) [some (.ref a), some (.int b), none, none] H
  unfold t_put_together
  walk_at "w"
  refine ⟨⟨_, hS⟩, for_l (xs := nints l) (fun i σ H1 => H1 = H ∧ ∃ y, σ = [some (.ref a), some (.int b), some (.int ((val b (l.take i) : Nat))), y]) ⟨rfl, none, rfl⟩ (fun i σ H1 _ p => p.1 ▸ hS) ?_ ?_⟩
  · rintro N hN i x σ H1 hx ⟨rfl, y, rfl⟩
    obtain ⟨d, hd, rfl⟩ := nints_get hx
    walk_at "w"
    refine ⟨by omega, hN _ _ _ ⟨rfl, some (.int d), ?_⟩⟩
    rw [take_get hd, val_append, val_one]
    simp
  · rintro σ H1 ⟨rfl, y, rfl⟩
    rw [nints_len, List.take_length]
    walk_at "w"
    exact q
theorem rd_figures (h : sp_figures K C vs H Q E) : t_figures K C E (fin Q) (start ["number", "base"] vs) H := by
  obtain ⟨n, x, rfl, hk, hn, r, q⟩ := h
  show t_figures K C E (fin Q) [some (.int n), some x] H
  unfold t_figures
  walk_at "w"
  refine ⟨x, rfl, hk, fun hb => ?_, fun hb => ?_⟩
  · cases x with
    | int i =>
      simp only [isBase, Bool.and_eq_true, decide_eq_true_eq] at hb
      obtain ⟨b, rfl⟩ := Int.eq_ofNat_of_zero_le (show 0 ≤ i by omega)
      exact ⟨n, b, rfl, by omega, by omega, hn, q b rfl (by omega) (by omega)⟩
    | _ => cases hb
  · exact r hb
theorem hand_mix (c : Int) (k : Nat) : ∃ m : Nat, m < 2147483587 ∧ (c % 2147483587 + 7919 * (k : Int) + 1) * 48271 % 2147483587 = (m : Int) := by
  have h0 : 0 ≤ (c % 2147483587 + 7919 * (k : Int) + 1) * 48271 % 2147483587 := Int.emod_nonneg _ (by decide)
  have h1 : (c % 2147483587 + 7919 * (k : Int) + 1) * 48271 % 2147483587 < 2147483587 := Int.emod_lt_of_pos _ (by decide)
  generalize (c % 2147483587 + 7919 * (k : Int) + 1) * 48271 % 2147483587 = z at h0 h1
  obtain ⟨m, rfl⟩ := Int.eq_ofNat_of_zero_le h0
  exact ⟨m, by omega, rfl⟩
theorem rd__law_hand (h : sp__law_hand K C vs H Q E) : t__law_hand K C E (fin Q) (start ["cell", "k", "digits"] vs) H := by
  obtain ⟨c, k, rfl, hk, q⟩ := h
  show t__law_hand K C E (fin Q) [some (.int c), some (.int k), none] H
  unfold t__law_hand
  walk_at "w"
  refine ⟨by decide, ?_⟩
  obtain ⟨m, hm, e⟩ := hand_mix c k
  rw [e]
  by_cases hc : (10 : Int) ^ (18 : Int).toNat ≤ c
  · rw [if_pos hc]
    have h18 : (0 : Int) ≤ (10 : Int) ^ (18 : Int).toNat := by decide
    obtain ⟨d, rfl⟩ := Int.eq_ofNat_of_zero_le (Int.le_trans h18 hc)
    exact ⟨by omega, by omega, by omega, by omega, by decide, fun p hp => q _ _ d m hm ((Led.refl H).new hp)⟩
  · rw [if_neg hc]
    exact ⟨by omega, by omega, by omega, by omega, by decide, fun p hp => q _ _ 0 m hm ((Led.refl H).new hp)⟩
theorem rd__law_draw (h : sp__law_draw K C vs H Q E) : t__law_draw K C E (fin Q) (start ["hand", "limit", "got"] vs) H := by
  obtain ⟨a, d, m, l, rfl, ha, hm, hl, hl2, q⟩ := h
  show t__law_draw K C E (fin Q) [some (.ref a), some (.int l), none] H
  unfold t__law_draw
  have L := Led.own1 ha
  have g0 : atI [V.int d, V.int m] 0 = some (.int d) := rfl
  have g1 : atI [V.int d, V.int m] 1 = some (.int m) := rfl
  walk_at "w"
  refine ⟨_, L.sqI 0 rfl, _, g0, _, rfl, ?_⟩
  by_cases hd : (0 : Int) < d
  · rw [if_pos hd]
    refine ⟨_, L.sqI 0 rfl, _, g0, _, rfl, by omega, _, L.sqI 0 rfl, _, g0, _, rfl, ⟨by omega, by omega⟩, _, L.get 0 rfl, 0, rfl, ?_⟩
    exact q _ (d / l) m (d % l) hm (Nat.mod_lt _ hl) (L.put 0 rfl)
  · rw [if_neg hd]
    have e : ∃ z : Nat, z < 2147483587 ∧ ((m : Int) * m + 69621 * m + 12345) % 2147483587 = z :=
      ⟨(m * m + 69621 * m + 12345) % 2147483587, Nat.mod_lt _ (by decide), by simp⟩
    obtain ⟨z, hz, e⟩ := e
    refine ⟨_, L.sqI 0 rfl, _, g1, _, L.sqI 0 rfl, _, g1, _, rfl, _, rfl, by omega, _, L.sqI 0 rfl, _, g1, _, rfl, by omega, by decide, _, L.get 0 rfl, 1, rfl, ?_⟩
    rw [e]
    have L2 := L.put (o' := .lst [.int d, .int z]) 0 rfl
    refine ⟨_, L2.sqI 0 rfl, _, rfl, _, rfl, by decide, by omega, ?_⟩
    exact q _ d z (z / 8 % l) hz (Nat.mod_lt _ hl) L2
end
end Mi

namespace Mi
open PySem PySem.Spec PyProof.Rows L2
local macro_rules
  | `(tactic| walk_at "w") => `(tactic| try simp only [a_seq, a_next, a_asg, a_name, a_var, a_c, a_op, a_un, a_rI, a_rI0, a_rU, a_ret, a_retN, a_ifS, a_drop, a_aug, a_ipI, a_test, a_B, a_and, a_or, a_not, a_andV, a_orV, a_notV, a_ifE, a_nil, a_cons, a_lst, a_tup, a_cb, a_go, a_bm, a_bm0, a_sl, a_po, a_pn,
      a_gsub, a_gnil, a_gcons, a_gtup, a_chain, a_eq, a_ne, a_yes, a_revL, a_slL, a_ixL, a_ixT, a_append, a_setL, a_cat, a_for, a_lc, a_iL, a_iT, a_iR1, a_iR2, a_iE, a_iZ, a_iS, b_lenL, b_int1b, b_int1i, b_listOf, b_max2, b_min2, b_sum, b_rep, b_eqLI0, b_eqLI1, b_isN, b_notN, b_listEnum, b_raise0,
      List.getElem?_cons_zero, List.getElem?_cons_succ, List.set_cons_zero, List.set_cons_succ, Option.some.injEq, V.int.injEq, V.ref.injEq, V.bl.injEq, V.str.injEq, List.cons.injEq, and_true, true_and, exists_eq_left', exists_eq_left, exists_eq_right, exists_eq_right', exists_and_left, exists_eq', exists_eq, decide_eq_true_eq, scal_ii, scal_bb, scal_ss, wipe, ↓reduceIte, reduceCtorEq,
      Bool.not_eq_true', decide_eq_false_iff_not, List.length_cons, List.length_nil, Nat.zero_add, CDiv, CMul, CPow])
local macro_rules
  | `(tactic| walk_at "z") => `(tactic| first | omega | (rw [sizeLine_eq]; simp only [List.length_append, List.length_map, List.length_cons, List.length_nil, List.length_reverse, nints]; omega) | decide | (simp only [List.length_append, List.length_map, List.length_cons, List.length_nil]; omega))
section
variable {K : PySem.W.Frag} {C : Str → Addr} {H : Hp} {Q : VK} {E : XK} {vs : List V}
theorem rd__law_power (h : sp__law_power K C vs H Q E) : t__law_power K C E (fin Q) (start ["base", "many", "found", "turn"] vs) H := by
  obtain ⟨b, m, rfl, hb, hm, q⟩ := h
  show t__law_power K C E (fin Q) [some (.int b), some (.int m), none, none] H
  unfold t__law_power
  walk_at "w"
  refine ⟨by omega, by omega, for_r (fun i σ H1 => H1 = H ∧ ∃ y, σ = [some (.int b), some (.int m), some (.int ((b ^ i : Nat))), y]) ⟨rfl, none, rfl⟩ ?_ ?_⟩
  · rintro N hN i σ H1 hi ⟨rfl, y, rfl⟩
    walk_at "w"
    refine ⟨by omega, hN _ _ _ ⟨rfl, some (.int (0 + (i : Int))), ?_⟩⟩
    rw [Nat.pow_succ]
    simp
  · rintro σ H1 ⟨rfl, y, rfl⟩
    walk_at "w"
    exact q
theorem rd__law_figures (h : sp__law_figures K C vs H Q E) : t__law_figures K C E (fin Q) (start ["number", "base", "found", "rest"] vs) H := by
  obtain ⟨n, b, rfl, hb, hb2, hn, q⟩ := h
  show t__law_figures K C E (fin Q) [some (.int n), some (.int b), none, none] H
  unfold t__law_figures
  walk_at "w"
  refine ⟨by omega, by decide, fun p hp => ?_⟩
  walk_at "w"
  refine ⟨⟨by omega, by omega⟩, ?_⟩
  have L0 := (Led.refl H).new (o := .lst [.int ((n : Int) % b)]) hp
  refine whl (fun m σ H1 => ∃ (x : Nat) (l : List Nat), m = x ∧ x ≤ n ∧ (if x = 0 then digs b n = l else digs b n = l ++ digs b x) ∧ σ = [some (.int n), some (.int b), some (.ref p), some (.int x)] ∧ Led H [(p, .lst (nints l))] H1) (n / b) ⟨n / b, [n % b], rfl, Nat.div_le_self _ _, ?_, rfl, ?_⟩ ?_
  · by_cases h : b ≤ n
    · have q0 : 0 < n / b := Nat.div_pos h (by omega)
      rw [if_neg (by omega)]
      exact digs_ge hb h
    · have q0 : n / b = 0 := Nat.div_eq_of_lt (by omega)
      rw [if_pos q0, digs_lt (by omega), Nat.mod_eq_of_lt (by omega)]
  · have e : nints [n % b] = [V.int ((n : Int) % b)] := by simp [nints]
    rw [e]
    exact L0
  · rintro N hN m σ H1 ⟨x, l, em, hx, e, rfl, L⟩
    have em := em.symm
    subst em
    walk_at "w"
    by_cases hc : (0 : Int) < x
    · rw [if_pos hc]
      have hx0 : x ≠ 0 := by omega
      rw [if_neg hx0] at e
      have hlen : l.length ≤ 700 := by
        have := digs_len_lim hb hn
        rw [e, List.length_append] at this
        omega
      refine whb ?_
      walk_at "w"
      refine ⟨.inl ⟨rfl, _, L.sqI 0 rfl⟩, by omega, _, L.get 0 rfl, by walk_at "z", ⟨by omega, by omega⟩, x / b, Nat.div_lt_self (by omega) (by omega), hN _ _ _ ⟨x / b, l ++ [x % b], rfl, ?_, ?_, ?_, ?_⟩⟩
      · exact Nat.le_trans (Nat.div_le_self _ _) hx
      · by_cases h : b ≤ x
        · have q0 : 0 < x / b := Nat.div_pos h (by omega)
          rw [if_neg (by omega), e, digs_ge hb h, List.append_assoc]
          rfl
        · have q0 : x / b = 0 := Nat.div_eq_of_lt (by omega)
          rw [if_pos q0, e, digs_lt (by omega), Nat.mod_eq_of_lt (by omega)]
      · simp
      · have L2 := L.put (o' := .lst (nints l ++ [V.int ((x : Int) % b)])) 0 rfl
        have e2 : nints (l ++ [x % b]) = nints l ++ [V.int ((x : Int) % b)] := by simp [nints]
        rw [e2]
        exact L2
    · rw [if_neg hc]
      have hx0 : x = 0 := by omega
      rw [if_pos hx0] at e
      refine ⟨_, L.sqI 0 rfl, fun p2 hp2 => ?_⟩
      have e3 : (nints l).reverse = nints (figs b n) := by
        unfold figs
        rw [e]
        simp [nints]
      rw [e3]
      exact q _ _ ((L.new hp2).one 0 rfl)
theorem nints_map (l : List Nat) : nints l = (l.map fun (d : Nat) => (d : Int)).map V.int := rfl
/-- each figure times its place -/
def places (b : Nat) (l : List Nat) (i : Nat) : List Nat := (List.range i).map fun j => l.getD j 0 * b ^ (l.length - 1 - j)
theorem places_sum (b : Nat) : ∀ l : List Nat, (places b l l.length).sum = val b l
  | [] => rfl
  | d :: l => by
    rw [val_cons, ← places_sum b l]
    unfold places
    rw [List.length_cons, List.range_succ_eq_map, List.map_cons, List.sum_cons, List.map_map]
    have e : ((fun j => (d :: l).getD j 0 * b ^ (l.length + 1 - 1 - j)) ∘ Nat.succ) = fun j => l.getD j 0 * b ^ (l.length - 1 - j) := by
      funext j
      show (d :: l).getD (j + 1) 0 * b ^ (l.length + 1 - 1 - (j + 1)) = _
      rw [show l.length + 1 - 1 - (j + 1) = l.length - 1 - j by omega]
      simp
    rw [e]
    simp
theorem sum_cast (l : List Nat) : (l.map fun (d : Nat) => (d : Int)).sum = ((l.sum : Nat) : Int) := by
  induction l with
  | nil => rfl
  | cons d l ih => simp [ih]
theorem getD_of {α : Type} {l : List α} {i : Nat} {d x : α} (h : l[i]? = some x) : l.getD i d = x := by
  rw [List.getD_eq_getElem?_getD, h]
  rfl
theorem lt_of_get {α : Type} {l : List α} {i : Nat} {x : α} (h : l[i]? = some x) : i < l.length := by
  rcases Nat.lt_or_ge i l.length with q | q
  · exact q
  · rw [List.getElem?_eq_none q] at h
    cases h
theorem rd__law_value (h : sp__law_value K C vs H Q E) : t__law_value K C E (fin Q) (start ["some", "base", "k", "figure"] vs) H := by
  obtain ⟨a, l, b, rfl, hS, hb, hd, hl, q⟩ := h
  show t__law_value K C E (fin Q) [some (.ref a), some (.int b), none, none] H
  unfold t__law_value
  walk_at "w"
  refine ⟨_, hS, fun P hP => lc_e (xs := nints l) (Led.refl H) hP (fun H1 L => L.sq hS) (fun i => nints (places b l i)) rfl ?_ fun H1 L => ?_⟩
  · intro i x H1 hx L
    obtain ⟨d, hi, rfl⟩ := nints_get hx
    walk_at "w"
    have hil := lt_of_get hi
    have e1 : ((nints l).length : Int) - 1 - i = ((l.length - 1 - i : Nat) : Int) := by rw [nints_len]; omega
    refine ⟨_, .inl (L.sq hS), b, l.length - 1 - i, ?_, hb, by omega, ?_⟩
    · rw [e1]
    · have : d ≤ 36 := hd d (List.mem_of_getElem? hi)
      refine ⟨_, rfl, by omega, lc_y L ?_ ?_⟩
      · unfold places
        rw [List.range_succ, List.map_append]
        simp [nints, hi]
      · rw [nints_len]
        unfold places
        rw [List.length_map, List.length_range, sizeLine_eq]
        omega
  · rw [nints_len] at L
    walk_at "w"
    refine ⟨_, L.sqI 0 rfl, ?_⟩
    rw [sum_cast, places_sum]
    exact q _ L.none
theorem cut_none (xs : List V) (m : Nat) : cutV xs none (some (m : Int)) = xs.take m := by
  unfold cutV
  rw [HT.sIx_none, HT.sIx_nat, List.drop_zero, Nat.sub_zero]
  rcases Nat.le_total m xs.length with h | h
  · rw [Nat.min_eq_left h]
  · rw [Nat.min_eq_right h, List.take_of_length_le (Nat.le_refl _), List.take_of_length_le h]
theorem rd__law_cells (h : sp__law_cells K C vs H Q E) : t__law_cells K C E (fin Q) (start ["script", "many"] vs) H := by
  obtain ⟨a, ns, m, rfl, hS, hn, hm, q⟩ := h
  show t__law_cells K C E (fin Q) [some (.ref a), some (.int m)] H
  unfold t__law_cells
  walk_at "w"
  refine ⟨_, hS, fun p hp => ?_⟩
  have L1 := (Led.refl H).new (o := .lst (cutV (ns.map V.int) none (some m))) hp
  generalize upd _ _ _ = H1 at L1 ⊢
  refine ⟨by decide, fun p2 hp2 => ?_⟩
  have L2 := L1.new (o := .lst [.int 0]) hp2
  generalize upd _ _ _ = H2 at L2 ⊢
  refine ⟨by decide, fun p3 hp3 => ?_⟩
  have L3 := L2.new (o := .lst []) hp3
  generalize upd _ _ _ = H3 at L3 ⊢
  refine ⟨ns, L3.sq hS, [], L3.sqI 0 rfl, ?_⟩
  have hc : ∃ k : Nat, (if ns = [] then (1 : Int) else 0) = k ∧ k ≤ 1 := by
    split
    · exact ⟨1, rfl, Nat.le_refl _⟩
    · exact ⟨0, rfl, by omega⟩
  obtain ⟨k, ek, hk⟩ := hc
  rw [ek]
  refine ⟨_, L3.get 1 rfl, by omega, by omega, ?_, fun p4 hp4 => ?_⟩
  · rw [sizeLine_eq]
    simp
    omega
  have L4 := L3.new (o := .lst (List.replicate (k : Int).toNat [V.int 0]).flatten) hp4
  generalize upd _ _ _ = H4 at L4 ⊢
  refine ⟨_, L4.get 3 rfl, _, L4.get 0 rfl, ?_, fun p5 hp5 => ?_⟩
  · rw [cut_none, sizeLine_eq]
    simp
    omega
  have L5 := L4.new (o := .lst (cutV (ns.map V.int) none (some m) ++ (List.replicate (k : Int).toNat [V.int 0]).flatten)) hp5
  generalize upd _ _ _ = H5 at L5 ⊢
  refine ⟨_, L5.sqI 0 rfl, fun P as H6 hl L6 => ?_⟩
  have e : cutV (ns.map V.int) none (some m) ++ (List.replicate (k : Int).toNat [V.int 0]).flatten = (ns.take m ++ List.replicate k 0).map V.int := by
    rw [cut_none, List.map_append, List.map_take, List.map_replicate, Int.toNat_natCast]
    congr 1
    have : ∀ k : Nat, (List.replicate k [V.int 0]).flatten = List.replicate k (V.int 0) := by
      intro k
      induction k with
      | zero => rfl
      | succ k ih => rw [List.replicate_succ, List.flatten_cons, ih]; rfl
    exact this k
  rw [e] at L6 hl
  refine q P as (ns.take m ++ List.replicate k 0) H6 (by rw [hl, List.length_map]) ?_ ?_
  · rw [List.length_append, List.length_take, List.length_replicate]
    omega
  · have z := L5.step L6
    exact z.sub (List.sublist_append_left _ _)
theorem rd__law_base (h : sp__law_base K C vs H Q E) : t__law_base K C E (fin Q) (start ["hand", "ends"] vs) H := by
  obtain ⟨a, d, m, rfl, ha, hm, q⟩ := h
  show t__law_base K C E (fin Q) [some (.ref a), none] H
  unfold t__law_base
  have L0 := Led.own1 ha
  walk_at "w"
  refine ⟨by decide, fun p hp => ?_⟩
  have L1 := L0.new (o := .lst [V.int 2, V.int 36, V.int 3, V.int 16]) hp
  generalize upd _ _ _ = H1 at L1 ⊢
  refine ⟨a, d, m, 4, rfl, L1.get 1 rfl, hm, by omega, by omega, fun H2 d2 m2 g2 hm2 hg2 M2 => ?_⟩
  have L2 := L1.stepOwn (G := []) 1 rfl M2
  have he : ∃ e : Nat, 2 ≤ e ∧ e ≤ 36 ∧ atI [V.int 2, V.int 36, V.int 3, V.int 16] (g2 : Int) = some (.int e) := by
    have hg : g2 = 0 ∨ g2 = 1 ∨ g2 = 2 ∨ g2 = 3 := by omega
    rcases hg with rfl | rfl | rfl | rfl
    · exact ⟨2, by omega, by omega, rfl⟩
    · exact ⟨36, by omega, by omega, rfl⟩
    · exact ⟨3, by omega, by omega, rfl⟩
    · exact ⟨16, by omega, by omega, rfl⟩
  obtain ⟨e, he1, he2, hat⟩ := he
  walk_at "w"
  refine ⟨_, L2.sqI 0 rfl, _, hat, a, d2, m2, 35, rfl, L2.get 1 rfl, hm2, by omega, by omega, fun H3 d3 m3 g3 hm3 hg3 M3 => ?_⟩
  have L3 := L2.stepOwn (G := []) 1 rfl M3
  walk_at "w"
  refine ⟨a, d3, m3, 35, rfl, L3.get 1 rfl, hm3, by omega, by omega, fun H4 d4 m4 g4 hm4 hg4 M4 => ?_⟩
  have L4 := L3.stepOwn (G := []) 1 rfl M4
  walk_at "w"
  refine ⟨by decide, fun p5 hp5 => ?_⟩
  have L5 := L4.new (o := .lst [V.int (2 + (g3 : Int)), V.int 10, V.int (2 + (g4 : Int)), V.int e]) hp5
  generalize upd _ _ _ = H5 at L5 ⊢
  refine ⟨a, d4, m4, 4, rfl, L5.get 2 rfl, hm4, by omega, by omega, fun H6 d6 m6 g6 hm6 hg6 M6 => ?_⟩
  have L6 := L5.stepOwn (G := []) 2 rfl M6
  walk_at "w"
  have hb : ∃ b : Nat, 2 ≤ b ∧ b ≤ 36 ∧ atI [V.int (2 + (g3 : Int)), V.int 10, V.int (2 + (g4 : Int)), V.int e] (g6 : Int) = some (.int b) := by
    have hg : g6 = 0 ∨ g6 = 1 ∨ g6 = 2 ∨ g6 = 3 := by omega
    rcases hg with rfl | rfl | rfl | rfl
    · exact ⟨2 + g3, by omega, by omega, by simp [atI, ixN]⟩
    · exact ⟨10, by omega, by omega, rfl⟩
    · exact ⟨2 + g4, by omega, by omega, by simp [atI, ixN]⟩
    · exact ⟨e, by omega, by omega, by simp [atI, ixN]⟩
  obtain ⟨b, hb1, hb2, hat6⟩ := hb
  refine ⟨_, L6.sqI 0 rfl, _, hat6, ?_⟩
  exact q H6 d6 m6 b hm6 hb1 hb2 (L6.one 2 rfl)
end
end Mi

namespace Mi
open PySem PySem.Spec PyProof.Rows L2
local macro_rules
  | `(tactic| walk_at "w") => `(tactic| try simp only [a_seq, a_next, a_asg, a_name, a_var, a_c, a_op, a_un, a_rI, a_rI0, a_rU, a_ret, a_retN, a_ifS, a_drop, a_aug, a_ipI, a_test, a_B, a_and, a_or, a_not, a_andV, a_orV, a_notV, a_ifE, a_nil, a_cons, a_lst, a_tup, a_cb, a_go, a_bm, a_bm0, a_sl, a_po, a_pn,
      a_gsub, a_gnil, a_gcons, a_gtup, a_chain, a_eq, a_ne, a_yes, a_revL, a_slL, a_ixL, a_ixT, a_append, a_setL, a_cat, a_for, a_lc, a_iL, a_iT, a_iR1, a_iR2, a_iE, a_iZ, a_iS, b_lenL, b_int1b, b_int1i, b_listOf, b_max2, b_min2, b_sum, b_rep, b_eqLI0, b_eqLI1, b_isN, b_notN, b_listEnum, b_raise0,
      List.getElem?_cons_zero, List.getElem?_cons_succ, List.set_cons_zero, List.set_cons_succ, Option.some.injEq, V.int.injEq, V.ref.injEq, V.bl.injEq, V.str.injEq, List.cons.injEq, and_true, true_and, exists_eq_left', exists_eq_left, exists_eq_right, exists_eq_right', exists_and_left, exists_eq', exists_eq, decide_eq_true_eq, scal_ii, scal_bb, scal_ss, wipe, ↓reduceIte, reduceCtorEq,
      Bool.not_eq_true', decide_eq_false_iff_not, List.length_cons, List.length_nil, Nat.zero_add, CDiv, CMul, CPow])
local macro_rules
  | `(tactic| walk_at "z") => `(tactic| first | omega | (rw [sizeLine_eq]; simp only [List.length_append, List.length_map, List.length_cons, List.length_nil, List.length_reverse, nints]; omega) | decide | (simp only [List.length_append, List.length_map, List.length_cons, List.length_nil]; omega))
section
variable {K : PySem.W.Frag} {C : Str → Addr} {H : Hp} {Q : VK} {E : XK} {vs : List V}
theorem at0 {x : V} {xs : List V} : atI (x :: xs) 0 = some x := atI_nat (j := 0) rfl
theorem rd_number_of (h : sp_number_of K C vs H Q E) : t_number_of K C E (fin Q) (start ["thing", "base", "one"] vs) H := by
  obtain ⟨a, l, b, rfl, ha, hb, hb2, hne, hd, hh, hlen, q⟩ := h
  show t_number_of K C E (fin Q) [some (.ref a), some (.int b), none] H
  unfold t_number_of
  walk_at "w"
  refine ⟨.int b, rfl, trivial, fun _ => ?_, fun h => ?_⟩
  · refine isi_list ha ⟨_, rfl, ?_⟩
    rw [if_neg (by decide)]
    refine ⟨by decide, fun p1 hp1 => ?_⟩
    have L1 := (Led.refl H).new (o := .lst []) hp1
    generalize upd _ _ _ = H1 at L1 ⊢
    have hS : SqL K H a (nints l) := SqL.of ha
    refine ⟨l.map fun (d : Nat) => (d : Int), L1.sq hS, [], L1.sqI 0 rfl, ?_⟩
    rw [if_neg (by simpa using hne)]
    refine ⟨⟨_, L1.sq hS⟩, fun P hP => lc_l L1 hP (fun H2 L2 => L2.sq hS) (fun _ => []) rfl ?_ fun H2 L2 => ?_⟩
    · intro i x H3 hx L3
      obtain ⟨d, hi, rfl⟩ := nints_get hx
      walk_at "w"
      refine ⟨.int d, rfl, trivial, _, rfl, ?_⟩
      exact L3
    refine ⟨by decide, fun p3 hp3 => ?_⟩
    have L3 := L2.new (o := .lst []) hp3
    generalize upd _ _ _ = H3 at L3 ⊢
    refine ⟨[], L3.sqI 1 rfl, [], L3.sqI 0 rfl, ?_⟩
    rw [if_neg (by simp)]
    refine ⟨⟨_, L3.sq hS⟩, fun P hP => lc_l L3 hP (fun H2 L2 => L2.sq hS) (fun _ => []) rfl ?_ fun H4 L4 => ?_⟩
    · intro i x H5 hx L5
      obtain ⟨d, hi, rfl⟩ := nints_get hx
      have hdb := hd d (List.mem_of_getElem? hi)
      walk_at "w"
      rw [if_pos (by omega)]
      walk_at "w"
      rw [if_neg (by omega)]
      exact L5
    refine ⟨by decide, fun p5 hp5 => ?_⟩
    have L5 := L4.new (o := .lst []) hp5
    generalize upd _ _ _ = H5 at L5 ⊢
    refine ⟨[], L5.sqI 1 rfl, [], L5.sqI 0 rfl, ?_⟩
    rw [if_neg (by simp)]
    have L6 : Led H [] H5 := L5.none
    obtain ⟨d, l', rfl⟩ : ∃ d l', l = d :: l' := by
      cases l with
      | nil => exact absurd rfl hne
      | cons d l' => exact ⟨d, l', rfl⟩
    refine ⟨_, L6.sq hS, .int d, at0, rfl, ?_⟩
    have fin : sp_put_together K C [V.ref a, V.int b] H5 Q E0 := ⟨a, d :: l', b, rfl, L6.sq hS, hb2, q H5 L6⟩
    by_cases hz : (V.int (d : Nat)) = V.int 0
    · rw [if_pos hz]
      refine ⟨_, .inl (L6.sq hS), ?_⟩
      have : (d :: l').length = 1 := by
        rcases hh with h | h
        · exact h
        · have := h d rfl
          have z : (d : Int) = 0 := V.int.inj hz
          omega
      rw [nints_len, this, if_neg (by decide)]
      exact fin
    · rw [if_neg hz]
      exact fin
  · have : isBase (.int b) = true := by simp [isBase]; omega
    rw [this] at h
    cases h
end
end Mi

/-! the draws, used -/
namespace Mi
open PySem PySem.Spec PyProof.Rows L2
local macro_rules
  | `(tactic| walk_at "w") => `(tactic| try simp only [a_seq, a_next, a_asg, a_name, a_var, a_c, a_op, a_un, a_rI, a_rI0, a_rU, a_ret, a_retN, a_ifS, a_drop, a_aug, a_ipI, a_test, a_B, a_and, a_or, a_not, a_andV, a_orV, a_notV, a_ifE, a_nil, a_cons, a_lst, a_tup, a_cb, a_go, a_bm, a_bm0, a_sl, a_po, a_pn,
      a_gsub, a_gnil, a_gcons, a_gtup, a_chain, a_eq, a_ne, a_yes, a_revL, a_slL, a_ixL, a_ixT, a_append, a_setL, a_cat, a_for, a_lc, a_iL, a_iT, a_iR1, a_iR2, a_iE, a_iZ, a_iS, b_lenL, b_int1b, b_int1i, b_listOf, b_max2, b_min2, b_sum, b_rep, b_eqLI0, b_eqLI1, b_isN, b_notN, b_listEnum, b_raise0,
      List.getElem?_cons_zero, List.getElem?_cons_succ, List.set_cons_zero, List.set_cons_succ, Option.some.injEq, V.int.injEq, V.ref.injEq, V.bl.injEq, V.str.injEq, List.cons.injEq, and_true, true_and, exists_eq_left', exists_eq_left, exists_eq_right, exists_eq_right', exists_and_left, exists_eq', exists_eq, decide_eq_true_eq, scal_ii, scal_bb, scal_ss, wipe, ↓reduceIte, reduceCtorEq,
      Bool.not_eq_true', decide_eq_false_iff_not, List.length_cons, List.length_nil, Nat.zero_add, CDiv, CMul, CPow])
local macro_rules
  | `(tactic| walk_at "z") => `(tactic| first | omega | (rw [sizeLine_eq]; simp only [List.length_append, List.length_map, List.length_cons, List.length_nil, List.length_reverse, nints]; omega) | decide | (simp only [List.length_append, List.length_map, List.length_cons, List.length_nil]; omega))
section
variable {K : PySem.W.Frag} {C : Str → Addr} {H B : Hp} {Q : VK} {E : XK} {F : List (Addr × HO)} {a : Addr} {d m l : Nat} {D : Ends} {σ : L2.St} {tb : TS}
theorem use_draw (L : Led B F H) (i : Nat) (hF : F[i]? = some (a, .lst [.int d, .int m])) (hm : m < 2147483587) (hl : 0 < l) (hl2 : l < 1073741824)
    (q : ∀ H' (d' m' g : Nat), m' < 2147483587 → g < l → Led B (F.set i (a, .lst [.int d', .int m'])) H' → Q (.int g) H') : sp__law_draw K C [.ref a, .int l] H Q E :=
  ⟨a, d, m, l, rfl, L.get i hF, hm, hl, hl2, fun H' d' m' g hm' hg M => q H' d' m' g hm' hg (L.stepOwn (G := []) i hF M)⟩
theorem use_base (L : Led B F H) (i : Nat) (hF : F[i]? = some (a, .lst [.int d, .int m])) (hm : m < 2147483587)
    (q : ∀ H' (d' m' b : Nat), m' < 2147483587 → 2 ≤ b → b ≤ 36 → Led B (F.set i (a, .lst [.int d', .int m'])) H' → Q (.int b) H') : sp__law_base K C [.ref a] H Q E :=
  ⟨a, d, m, rfl, L.get i hF, hm, fun H' d' m' b hm' hb hb2 M => q H' d' m' b hm' hb hb2 (L.stepOwn (G := []) i hF M)⟩
theorem use_hand {c : Int} {k : Nat} (L : Led B F H) (hk : k ≤ 1000) (q : ∀ p H' (d m : Nat), m < 2147483587 → Led B ((p, .lst [.int d, .int m]) :: F) H' → Q (.ref p) H') : sp__law_hand K C [.int c, .int k] H Q E :=
  ⟨c, k, rfl, hk, fun p H' d m hm M => q p H' d m hm (L.step M)⟩
theorem enF_get {as : List Addr} {xs : List V} {i : Nat} {b : Addr} {y : V} (hl : as.length = xs.length) (hb : as[i]? = some b) (hy : xs[i]? = some y) : (b, HO.tup [.int (i : Nat), y]) ∈ enF as xs :=
  List.mem_map.mpr ⟨i, List.mem_range.mpr (by have := lt_of_get hy; exact this), by rw [getD_of hb, getD_of hy]⟩
/-- for k, cell in the cells -/
theorem for_cells {P : Addr} {as : List Addr} {cs : List Int} {H1 : Hp} {j k : Nat} (hl : as.length = cs.length) (hc : cs.length ≤ 64) (L : Led H ((P, .lst (as.map V.ref)) :: enF as (cs.map V.int)) H1)
    (Pv : L2.St → Hp → Prop) (h0 : Pv σ H1) (hB : ∀ σ H, Pv σ H → Led H1 [] H)
    (hs : ∀ N : Nat → L2.St → Hp → Prop, (∀ i σ H, Pv σ H → N i σ H) → ∀ (i : Nat) (c : Int) σ H, i < 64 → Pv σ H → tb { D with nx := N (i + 1), ct := N (i + 1), bk := D.nx } ((σ.set j (some (.int (i : Nat)))).set k (some (.int c))) H)
    (hd : ∀ σ H, Pv σ H → D.nx σ H) : ForG (Itl K P) (g2 K j k) tb D σ H1 := by
  have hP : H1 P = some (.lst (as.map V.ref)) := L.get 0 rfl
  have hT : ∀ (i : Nat) b x y, as[i]? = some b → ((List.range as.length).map fun j => V.int (j : Nat))[i]? = some x → (cs.map V.int)[i]? = some y → H1 b = some (.tup [x, y]) := by
    intro i b x y h1 h2 h3
    have hi := lt_of_get h1
    rw [List.getElem?_map, List.getElem?_range hi] at h2
    cases h2
    exact (L.own _ (List.mem_cons_of_mem _ (enF_get (by rw [List.length_map]; exact hl) h1 h3))).1
  refine for_lp (as := as) (xs := (List.range as.length).map fun j => V.int (j : Nat)) (ys := cs.map V.int) (by simp) (by simp [hl]) (fun i σ H2 => Pv σ H2) h0 ?_ ?_ hd
  · intro i σ H2 p
    have L2 := hB σ H2 p
    exact ⟨SqL.of (L2.base _ _ hP), fun i b x y h1 h2 h3 => SqT.of (L2.base _ _ (hT i b x y h1 h2 h3))⟩
  · intro N hN i x y σ H2 hx hy p
    obtain ⟨c, hc, rfl⟩ : ∃ c : Int, cs[i]? = some c ∧ y = .int c := by
      rw [List.getElem?_map] at hy
      cases e : cs[i]? with
      | none => rw [e] at hy; cases hy
      | some c => rw [e] at hy; cases hy; exact ⟨c, rfl, rfl⟩
    have hi : i < as.length := by
      have := lt_of_get hx
      rw [List.length_map, List.length_range] at this
      exact this
    rw [List.getElem?_map, List.getElem?_range hi] at hx
    cases hx
    exact hs N hN i c σ H2 (by omega) p
/-- [_law_draw(hand, wide) for j in range(n)] -/
theorem lc_draw {j h w n : Nat} {lo : Int} {P : Addr} {Qd : Hp → Prop} (L : Led B F H) (hP : H P = none) (i : Nat) (hF : F[i]? = some (a, .lst [.int d, .int m])) (hm : m < 2147483587) (hl : 0 < l) (hl2 : l < 1073741824)
    (hh : ∀ x, ((wipe σ [j]).set j x)[h]? = some (some (.ref a))) (hw : ∀ x, ((wipe σ [j]).set j x)[w]? = some (some (.int l))) (hj : ∀ x, wipe ((wipe σ [j]).set j x) [j] = wipe σ [j]) (hn : n < sizeLine)
    (q : ∀ H' (d' m' : Nat) (ls : List Nat), ls.length = n → (∀ x ∈ ls, x < l) → m' < 2147483587 → Led B ((P, .lst (nints ls)) :: F.set i (a, .lst [.int d', .int m'])) H' → Qd H') :
    LcG (Itr lo n) (gName j) tYes (tGo (sp__law_draw K C) (fun _ => E0) (tCons (tVar h) (tCons (tVar w) tNil))) [j] σ P Qd H := by
  refine lc_g walk_range (fun k H' => ∃ (d' m' : Nat) (ls : List Nat), ls.length = k ∧ (∀ x ∈ ls, x < l) ∧ m' < 2147483587 ∧ Led B ((P, .lst (nints ls)) :: F.set i (a, .lst [.int d', .int m'])) H') ?_ (fun _ _ _ _ => trivial) ?_ ?_
  · refine ⟨d, m, [], rfl, fun x hx => (nomatch hx), hm, ?_⟩
    have e : F.set i (a, .lst [.int d, .int m]) = F := by
      apply List.ext_getElem?
      intro k
      by_cases hk : i = k
      · subst hk
        rw [List.getElem?_set_self (lt_of_get hF), hF]
      · rw [List.getElem?_set_ne hk]
    rw [e]
    exact L.new hP
  · rintro k x H1 H2 hk ⟨d', m', ls, e1, e2, e3, L1⟩ y
    obtain ⟨e, y⟩ := y
    subst e
    subst y
    have hF' : (F.set i (a, HO.lst [.int d', .int m']))[i]? = some (a, .lst [.int d', .int m']) := List.getElem?_set_self (lt_of_get hF)
    have hF2 : ((P, HO.lst (nints ls)) :: F.set i (a, HO.lst [.int d', .int m']))[i + 1]? = some (a, .lst [.int d', .int m']) := by
      rw [List.getElem?_cons_succ]
      exact hF'
    refine ⟨hj _, ?_⟩
    rw [a_yes, if_pos rfl]
    refine ⟨_, hh _, _, hw _, ?_⟩
    simp only [a_nil]
    refine use_draw L1 (i + 1) hF2 e3 hl hl2 fun H3 d3 m3 g hm3 hg L3 => ?_
    rw [List.set_cons_succ, List.set_set] at L3
    refine ⟨_, L3.get 0 rfl, by rw [nints_len, e1]; omega, d3, m3, ls ++ [g], ?_, ?_, hm3, ?_⟩
    · rw [List.length_append, e1]
      rfl
    · intro x hx
      rcases List.mem_append.mp hx with z | z
      · exact e2 x z
      · rw [List.mem_singleton.mp z]
        exact hg
    · have e4 : nints (ls ++ [g]) = nints ls ++ [.int (g : Nat)] := by simp [nints]
      rw [e4]
      exact L3.put 0 rfl
  · rintro H' ⟨d', m', ls, e1, e2, e3, L1⟩
    exact q H' d' m' ls e1 e2 e3 L1
end
end Mi

/-! mirrored numbers -/
namespace Mi
section
variable {b : Nat}
abbrev ln (b n : Nat) : Nat := (figs b n).length
theorem ln_of {n s : Nat} (hb : 2 ≤ b) (hs : 1 ≤ s) (h1 : s = 1 ∨ b ^ (s - 1) ≤ n) (h2 : n < b ^ s) : ln b n = s := by
  have a1 : ln b n ≤ s := figs_len hb h2 (by omega)
  have a2 : 0 < ln b n := figs_len_pos
  rcases h1 with h1 | h1
  · omega
  · have a3 := lt_pow_figs hb n
    have a4 : s - 1 < ln b n := (Nat.pow_lt_pow_iff_right hb).mp (Nat.lt_of_le_of_lt h1 a3)
    omega
theorem ln_low {n : Nat} (hb : 2 ≤ b) (hn : 0 < n) : b ^ (ln b n - 1) ≤ n := pow_le_figs hb n hn
theorem ln_high {n : Nat} (hb : 2 ≤ b) : n < b ^ (ln b n) := lt_pow_figs hb n
theorem ln_pos {n : Nat} : 0 < ln b n := figs_len_pos
theorem ln_mono {m n : Nat} (hb : 2 ≤ b) (h : m ≤ n) : ln b m ≤ ln b n :=
  figs_len hb (Nat.lt_of_le_of_lt h (ln_high hb)) ln_pos
/-- the first figures of a number -/
theorem val_take {n k : Nat} (hb : 2 ≤ b) (hk : k ≤ ln b n) : val b ((figs b n).take k) = n / b ^ (ln b n - k) := by
  have e := val_figs hb n
  rw [← List.take_append_drop k (figs b n), val_append] at e
  have hl : ((figs b n).drop k).length = ln b n - k := List.length_drop ..
  have h2 := val_lt (b := b) (by omega) ((figs b n).drop k) (fun d hd => figs_bd hb n d (List.mem_of_mem_drop hd))
  rw [hl] at h2 e
  have hp : 0 < b ^ (ln b n - k) := Nat.pow_pos (by omega)
  have : n / b ^ (ln b n - k) = (val b ((figs b n).take k) * b ^ (ln b n - k) + val b ((figs b n).drop k)) / b ^ (ln b n - k) := by rw [e]
  rw [this, Nat.mul_comm, Nat.mul_add_div hp, Nat.div_eq_of_lt h2, Nat.add_zero]
def half (b n : Nat) : Nat := n / b ^ (ln b n / 2)
theorem half_eq {n : Nat} (hb : 2 ≤ b) : val b ((figs b n).take ((ln b n + 1) / 2)) = half b n := by
  rw [val_take hb (by have := ln_pos (b := b) (n := n); omega)]
  unfold half
  rw [show ln b n - (ln b n + 1) / 2 = ln b n / 2 by omega]
/-- the number of so many figures with a first half -/
def pal (b s h : Nat) : Nat := val b (figs b h ++ ((figs b h).take (s / 2)).reverse)
theorem pal_split (hb : 2 ≤ b) {s h : Nat} (hs : s / 2 ≤ ln b h) : ∃ r, r < b ^ (s / 2) ∧ pal b s h = h * b ^ (s / 2) + r := by
  unfold pal
  refine ⟨val b ((figs b h).take (s / 2)).reverse, ?_, ?_⟩
  · have := val_lt (b := b) (by omega) ((figs b h).take (s / 2)).reverse (fun d hd => figs_bd hb h d (List.mem_of_mem_take (List.mem_reverse.mp hd)))
    rwa [List.length_reverse, List.length_take, Nat.min_eq_left hs] at this
  · rw [val_append, val_figs hb, List.length_reverse, List.length_take, Nat.min_eq_left hs]
/-- a first half that is one -/
def Hf (b s h : Nat) : Prop := 1 ≤ s ∧ ln b h = (s + 1) / 2 ∧ (0 < h ∨ s = 1)
theorem Hf.of {s h : Nat} (hb : 2 ≤ b) (hs : 1 ≤ s) (h1 : b ^ ((s - 1) / 2) ≤ h) (h2 : h < b ^ ((s + 1) / 2)) : Hf b s h := by
  refine ⟨hs, ln_of hb (by omega) (Or.inr ?_) h2, Or.inl (Nat.lt_of_lt_of_le (Nat.pow_pos (by omega)) h1)⟩
  rw [show (s + 1) / 2 - 1 = (s - 1) / 2 by omega]
  exact h1
theorem hf_half {n : Nat} (hb : 2 ≤ b) : Hf b (ln b n) (half b n) := by
  have hl := ln_pos (b := b) (n := n)
  have hp : 0 < b ^ (ln b n / 2) := Nat.pow_pos (by omega)
  by_cases h1 : ln b n = 1
  · have e : half b n = n := by
      unfold half
      rw [h1, show 1 / 2 = 0 by decide, Nat.pow_zero, Nat.div_one]
    exact ⟨by omega, by rw [e, h1], Or.inr h1⟩
  · have hn : 0 < n := Nat.pos_of_ne_zero fun z => by
      subst z
      have : ln b 0 = 1 := ln_of hb (by decide) (Or.inl rfl) (Nat.pow_pos (by omega))
      omega
    refine Hf.of hb (by omega) ?_ ?_
    · unfold half
      rw [Nat.le_div_iff_mul_le hp, ← Nat.pow_add]
      have := ln_low hb hn
      rwa [show (ln b n - 1) / 2 + ln b n / 2 = ln b n - 1 by omega]
    · unfold half
      rw [Nat.div_lt_iff_lt_mul hp, ← Nat.pow_add]
      have := ln_high (n := n) hb
      rwa [show (ln b n + 1) / 2 + ln b n / 2 = ln b n by omega]
theorem hf_low {s h : Nat} (hb : 2 ≤ b) (hf : Hf b s h) (h0 : 0 < h) : b ^ ((s - 1) / 2) ≤ h := by
  have := ln_low hb h0
  rw [hf.2.1] at this
  rwa [show (s + 1) / 2 - 1 = (s - 1) / 2 by have := hf.1; omega] at this
theorem hf_high {s h : Nat} (hb : 2 ≤ b) (hf : Hf b s h) : h < b ^ ((s + 1) / 2) := by
  have := ln_high (n := h) hb
  rwa [hf.2.1] at this
/-- a first half, turned about -/
theorem pal_parts' (l : List Nat) (s : Nat) (hs : 1 ≤ s) (hl : l.length = (s + 1) / 2) : (l ++ (l.take (s / 2)).reverse).length = s ∧ (l ++ (l.take (s / 2)).reverse).reverse = l ++ (l.take (s / 2)).reverse := by
  have h1 : s / 2 ≤ l.length := by omega
  constructor
  · rw [List.length_append, List.length_reverse, List.length_take]
    omega
  · rw [List.reverse_append, List.reverse_reverse]
    apply List.ext_getElem?
    intro i
    by_cases h2 : i < s / 2
    · rw [List.getElem?_append_left (by rw [List.length_take]; omega), List.getElem?_take_of_lt h2, List.getElem?_append_left (by omega)]
    · rw [List.getElem?_append_right (by rw [List.length_take]; omega)]
      rw [show (l.take (s / 2)).length = s / 2 by rw [List.length_take]; omega]
      by_cases h3 : i < s
      · have e1 : i - s / 2 < l.length := by omega
        rw [List.getElem?_reverse e1]
        by_cases h4 : i < l.length
        · rw [List.getElem?_append_left h4]
          congr 1
          omega
        · rw [List.getElem?_append_right (by omega), List.getElem?_reverse (by rw [List.length_take]; omega), List.getElem?_take_of_lt (by rw [List.length_take]; omega)]
          congr 1
          rw [List.length_take]
          omega
      · rw [List.getElem?_eq_none (by rw [List.length_reverse]; omega), List.getElem?_eq_none (by rw [List.length_append, List.length_reverse, List.length_take]; omega)]
theorem figs_pal {s h : Nat} (hb : 2 ≤ b) (hf : Hf b s h) : figs b (pal b s h) = figs b h ++ ((figs b h).take (s / 2)).reverse := by
  unfold pal
  refine figs_val hb _ (by simp [figs_ne]) (fun d hd => ?_) ?_
  · rcases List.mem_append.mp hd with e | e
    · exact figs_bd hb h d e
    · exact figs_bd hb h d (List.mem_of_mem_take (List.mem_reverse.mp e))
  · rcases hf.2.2 with h0 | h0
    · right
      intro d hd
      rw [List.head?_append] at hd
      cases e : (figs b h).head? with
      | none => exact absurd (List.head?_eq_none_iff.mp e) figs_ne
      | some x =>
        rw [e] at hd
        cases hd
        exact figs_head hb h h0 _ e
    · left
      rw [(pal_parts' _ s hf.1 hf.2.1).1]
      exact h0
theorem ln_pal {s h : Nat} (hb : 2 ≤ b) (hf : Hf b s h) : ln b (pal b s h) = s := by
  show (figs b (pal b s h)).length = s
  rw [figs_pal hb hf]
  exact (pal_parts' _ s hf.1 hf.2.1).1
theorem mir_pal {s h : Nat} (hb : 2 ≤ b) (hf : Hf b s h) : mir b (pal b s h) = true := by
  unfold mir
  rw [figs_pal hb hf]
  exact decide_eq_true (pal_parts' _ s hf.1 hf.2.1).2.symm
theorem half_pal {s h : Nat} (hb : 2 ≤ b) (hf : Hf b s h) : half b (pal b s h) = h := by
  have hs := hf.1
  obtain ⟨r, hr, e⟩ := pal_split hb (s := s) (h := h) (by rw [hf.2.1]; omega)
  unfold half
  rw [ln_pal hb hf, e, Nat.mul_comm, Nat.mul_add_div (Nat.pow_pos (by omega)), Nat.div_eq_of_lt hr, Nat.add_zero]
theorem mir_eq {n : Nat} (hb : 2 ≤ b) (h : mir b n = true) : n = pal b (ln b n) (half b n) := by
  have hm : figs b n = (figs b n).reverse := of_decide_eq_true h
  have hl := ln_pos (b := b) (n := n)
  have e1 : figs b (half b n) = (figs b n).take ((ln b n + 1) / 2) := by
    rw [← half_eq hb]
    refine figs_val hb _ ?_ (fun d hd => figs_bd hb n d (List.mem_of_mem_take hd)) ?_
    · intro z
      have q : min ((ln b n + 1) / 2) (ln b n) = 0 := by
        have := congrArg List.length z
        rwa [List.length_take] at this
      omega
    · by_cases h0 : 0 < n
      · right
        intro d hd
        rw [List.head?_take] at hd
        split at hd
        · cases hd
        · exact figs_head hb n h0 d hd
      · left
        have h0 : n = 0 := by omega
        have : ln b n = 1 := ln_of hb (by decide) (Or.inl rfl) (by rw [h0]; exact Nat.pow_pos (by omega))
        rw [List.length_take]
        show min ((ln b n + 1) / 2) (ln b n) = 1
        omega
  unfold pal
  rw [e1]
  have e2 : (((figs b n).take ((ln b n + 1) / 2)).take (ln b n / 2)).reverse = (figs b n).drop ((ln b n + 1) / 2) := by
    rw [List.take_take, Nat.min_eq_left (by omega)]
    have : ((figs b n).take (ln b n / 2)).reverse = ((figs b n).reverse).drop (ln b n - ln b n / 2) := by
      rw [List.reverse_take]
    rw [this, ← hm]
    congr 1
    omega
  rw [e2, List.take_append_drop, val_figs hb]
theorem pal_mono {s h h' : Nat} (hb : 2 ≤ b) (h1 : s / 2 ≤ ln b h) (h2 : s / 2 ≤ ln b h') (hl : h < h') : pal b s h < pal b s h' := by
  obtain ⟨r, hr, e⟩ := pal_split hb h1
  obtain ⟨r', hr', e'⟩ := pal_split hb h2
  rw [e, e']
  calc h * b ^ (s / 2) + r < h * b ^ (s / 2) + b ^ (s / 2) := Nat.add_lt_add_left hr _
    _ = (h + 1) * b ^ (s / 2) := by rw [Nat.add_mul, Nat.one_mul]
    _ ≤ h' * b ^ (s / 2) := Nat.mul_le_mul_right _ hl
    _ ≤ h' * b ^ (s / 2) + r' := Nat.le_add_right _ _
theorem Hf.le2 {s h : Nat} (hf : Hf b s h) : s / 2 ≤ ln b h := by rw [hf.2.1]; omega
theorem half_mono {m n : Nat} (hb : 2 ≤ b) (h : m ≤ n) (hl : ln b m = ln b n) : half b m ≤ half b n := by
  unfold half
  rw [hl]
  exact Nat.div_le_div_right h
/-- two mirrored numbers of one length are ordered as their first halves -/
theorem mir_le {m n : Nat} (hb : 2 ≤ b) (hm : mir b m = true) (h : m ≤ n) (hl : ln b m = ln b n) : m ≤ pal b (ln b n) (half b n) := by
  rw [mir_eq hb hm, hl]
  have h1 := half_mono hb h hl
  have hf1 := hf_half (n := m) hb
  have hf2 := hf_half (n := n) hb
  rw [hl] at hf1
  rcases Nat.lt_or_eq_of_le h1 with z | z
  · exact Nat.le_of_lt (pal_mono hb hf1.le2 hf2.le2 z)
  · rw [z]
    exact Nat.le_refl _
theorem mir_ge {m n : Nat} (hb : 2 ≤ b) (hm : mir b m = true) (h : n ≤ m) (hl : ln b m = ln b n) : pal b (ln b n) (half b n) ≤ m := by
  rw [mir_eq hb hm, hl]
  have h1 := half_mono hb h hl.symm
  have hf1 := hf_half (n := m) hb
  have hf2 := hf_half (n := n) hb
  rw [hl] at hf1
  rcases Nat.lt_or_eq_of_le h1 with z | z
  · exact Nat.le_of_lt (pal_mono hb hf2.le2 hf1.le2 z)
  · rw [z]
    exact Nat.le_refl _
theorem half_low {n : Nat} : half b n * b ^ (ln b n / 2) ≤ n := by
  unfold half
  exact Nat.div_mul_le_self _ _
theorem half_up {n : Nat} (hb : 2 ≤ b) : n < (half b n + 1) * b ^ (ln b n / 2) := by
  unfold half
  exact Nat.lt_mul_of_div_lt (Nat.lt_succ_self _) (Nat.pow_pos (by omega))
/-- greatest figures alone are mirrored -/
theorem mir_top {s : Nat} (hb : 2 ≤ b) (hs : 1 ≤ s) : mir b (b ^ s - 1) = true ∧ ln b (b ^ s - 1) = s := by
  have hv : ∀ s, val b (List.replicate s (b - 1)) = b ^ s - 1 := by
    intro s
    induction s with
    | zero => rfl
    | succ s ih =>
      rw [List.replicate_succ, val_cons, ih, List.length_replicate, Nat.pow_succ]
      have hp : 0 < b ^ s := Nat.pow_pos (by omega)
      have : (b - 1) * b ^ s + b ^ s = b ^ s * b := by
        rw [← Nat.succ_mul, Nat.succ_eq_add_one, Nat.sub_add_cancel (by omega), Nat.mul_comm]
      omega
  have e : figs b (b ^ s - 1) = List.replicate s (b - 1) := by
    rw [← hv s]
    refine figs_val hb _ (fun z => by have := congrArg List.length z; simp at this; omega) (fun d hd => by rw [(List.mem_replicate.mp hd).2]; omega) (Or.inr fun d hd => ?_)
    rw [List.head?_replicate] at hd
    split at hd
    · cases hd
    · cases hd
      omega
  constructor
  · unfold mir
    rw [e, List.reverse_replicate]
    exact decide_eq_true rfl
  · show (figs b (b ^ s - 1)).length = s
    rw [e, List.length_replicate]
end
end Mi

/-! nearest mirrored numbers, how many, the so-manieth -/
namespace Mi
section
variable {b : Nat}
/-- the mirrored number with a number's own first half -/
abbrev own (b n : Nat) : Nat := pal b (ln b n) (half b n)
def lowM (b n : Nat) : Nat := if own b n ≤ n then own b n else if half b n = b ^ ((ln b n - 1) / 2) then b ^ (ln b n - 1) - 1 else pal b (ln b n) (half b n - 1)
def highM (b n : Nat) : Nat := pal b (ln b n) (half b n + if own b n < n then 1 else 0)
theorem pow_parts (s : Nat) : b ^ ((s + 1) / 2) * b ^ (s / 2) = b ^ s := by
  rw [← Nat.pow_add]
  congr 1
  omega
theorem ln_one {n : Nat} (hb : 2 ≤ b) (h : n < b) : ln b n = 1 := ln_of hb (by decide) (Or.inl rfl) (by rw [Nat.pow_one]; exact h)
theorem own_one {n : Nat} (hb : 2 ≤ b) (h : n < b) : own b n = n := by
  unfold own pal half
  rw [ln_one hb h, show 1 / 2 = 0 by decide, Nat.pow_zero, Nat.div_one, List.take_zero, List.reverse_nil, List.append_nil, val_figs hb]
theorem ln_two {n : Nat} (hb : 2 ≤ b) (h : 2 ≤ ln b n) : b ≤ n := by
  refine Nat.le_of_not_lt fun z => ?_
  rw [ln_one hb z] at h
  omega
/-- a first half less one -/
theorem hf_pred {n : Nat} (hb : 2 ≤ b) (h2 : 2 ≤ ln b n) (hn : half b n ≠ b ^ ((ln b n - 1) / 2)) : Hf b (ln b n) (half b n - 1) := by
  have hf := hf_half (n := n) hb
  have h0 : 0 < half b n := by
    rcases hf.2.2 with z | z
    · exact z
    · omega
  have l := hf_low hb hf h0
  exact Hf.of hb (by omega) (by omega) (Nat.lt_of_le_of_lt (Nat.sub_le _ _) (hf_high hb hf))
theorem own_two {n : Nat} (hb : 2 ≤ b) (h : ¬ own b n ≤ n) : 2 ≤ ln b n := by
  refine Nat.lt_of_not_le fun z => h ?_
  have : ln b n = 1 := by have := ln_pos (b := b) (n := n); omega
  have h2 := ln_high (n := n) hb
  rw [this, Nat.pow_one] at h2
  rw [own_one hb h2]
  exact Nat.le_refl _
theorem pal_lt {n h : Nat} (hb : 2 ≤ b) (hf : Hf b (ln b n) h) (hh : h < half b n) : pal b (ln b n) h < n := by
  obtain ⟨r, hr, e⟩ := pal_split hb hf.le2
  rw [e]
  calc h * b ^ (ln b n / 2) + r < h * b ^ (ln b n / 2) + b ^ (ln b n / 2) := Nat.add_lt_add_left hr _
    _ = (h + 1) * b ^ (ln b n / 2) := by rw [Nat.add_mul, Nat.one_mul]
    _ ≤ half b n * b ^ (ln b n / 2) := Nat.mul_le_mul_right _ hh
    _ ≤ n := half_low
theorem low_spec {n : Nat} (hb : 2 ≤ b) : mir b (lowM b n) = true ∧ lowM b n ≤ n ∧ ∀ m, mir b m = true → m ≤ n → m ≤ lowM b n := by
  have hf := hf_half (n := n) hb
  unfold lowM
  by_cases h1 : own b n ≤ n
  · rw [if_pos h1]
    refine ⟨mir_pal hb hf, h1, fun m hm hl => ?_⟩
    rcases Nat.lt_or_eq_of_le (ln_mono hb hl) with z | z
    · have a1 := ln_high (n := m) hb
      have a2 : b ^ ln b m ≤ b ^ (ln b n - 1) := Nat.pow_le_pow_right (by omega) (by omega)
      have a3 : ln b (own b n) = ln b n := ln_pal hb hf
      have a4 : 0 < own b n := Nat.pos_of_ne_zero fun q => by
        rw [q, ln_one hb (by omega)] at a3
        have := ln_pos (b := b) (n := m)
        omega
      have a5 := ln_low hb a4
      rw [a3] at a5
      omega
    · exact mir_le hb hm hl z
  · rw [if_neg h1]
    have h2 := own_two hb h1
    have hn : 0 < n := Nat.lt_of_lt_of_le (by omega) (ln_two hb h2)
    by_cases h3 : half b n = b ^ ((ln b n - 1) / 2)
    · rw [if_pos h3]
      obtain ⟨t1, t2⟩ := mir_top hb (s := ln b n - 1) (by omega)
      have t3 := ln_low hb hn
      refine ⟨t1, by omega, fun m hm hl => ?_⟩
      rcases Nat.lt_or_eq_of_le (ln_mono hb hl) with z | z
      · have a1 := ln_high (n := m) hb
        have a2 : b ^ ln b m ≤ b ^ (ln b n - 1) := Nat.pow_le_pow_right (by omega) (by omega)
        omega
      · exfalso
        have q := half_mono hb hl z
        have hfm := hf_half (n := m) hb
        rw [z] at hfm
        have h0 : 0 < half b m := by
          rcases hfm.2.2 with y | y
          · exact y
          · omega
        have l := hf_low hb hfm h0
        have e : half b m = half b n := by omega
        have : m = own b n := by
          rw [mir_eq hb hm, z, e]
        omega
    · rw [if_neg h3]
      have hf' := hf_pred hb h2 h3
      have h0 : 0 < half b n := by
        rcases hf.2.2 with y | y
        · exact y
        · omega
      refine ⟨mir_pal hb hf', Nat.le_of_lt (pal_lt hb hf' (by omega)), fun m hm hl => ?_⟩
      rcases Nat.lt_or_eq_of_le (ln_mono hb hl) with z | z
      · have a1 := ln_high (n := m) hb
        have a2 : b ^ ln b m ≤ b ^ (ln b n - 1) := Nat.pow_le_pow_right (by omega) (by omega)
        have a3 : ln b (pal b (ln b n) (half b n - 1)) = ln b n := ln_pal hb hf'
        have a4 : 0 < pal b (ln b n) (half b n - 1) := Nat.pos_of_ne_zero fun q => by
          rw [q, ln_one hb (by omega)] at a3
          omega
        have a5 := ln_low hb a4
        rw [a3] at a5
        omega
      · have q := half_mono hb hl z
        have ne : half b m ≠ half b n := fun e => by
          have : m = own b n := by rw [mir_eq hb hm, z, e]
          omega
        have hfm := hf_half (n := m) hb
        rw [z] at hfm
        rw [mir_eq hb hm, z]
        rcases Nat.lt_or_eq_of_le (show half b m ≤ half b n - 1 by omega) with y | y
        · exact Nat.le_of_lt (pal_mono hb hfm.le2 hf'.le2 y)
        · rw [y]
          exact Nat.le_refl _
/-- a first half of greatest figures alone is a top's -/
theorem half_top {n : Nat} (hb : 2 ≤ b) (h : half b n + 1 = b ^ ((ln b n + 1) / 2)) : n ≤ own b n := by
  have hf := hf_half (n := n) hb
  have hl := ln_pos (b := b) (n := n)
  obtain ⟨t1, t2⟩ := mir_top hb (s := ln b n) hl
  have h1 := ln_high (n := n) hb
  have e : half b (b ^ ln b n - 1) = half b n := by
    have hf2 := hf_half (n := b ^ ln b n - 1) hb
    rw [t2] at hf2
    have u := hf_high hb hf2
    have m := half_mono hb (show n ≤ b ^ ln b n - 1 by omega) t2.symm
    omega
  have : own b n = b ^ ln b n - 1 := by
    have := mir_eq hb t1
    rw [t2, e] at this
    exact this.symm
  omega
theorem hf_succ {n : Nat} (hb : 2 ≤ b) (h : own b n < n) : Hf b (ln b n) (half b n + 1) := by
  have hf := hf_half (n := n) hb
  have h2 := hf_high hb hf
  have ne : half b n + 1 ≠ b ^ ((ln b n + 1) / 2) := fun e => by
    have := half_top hb e
    omega
  have hl := ln_pos (b := b) (n := n)
  have two : 2 ≤ ln b n := by
    refine Nat.lt_of_not_le fun z => ?_
    have : ln b n = 1 := by omega
    have h3 := ln_high (n := n) hb
    rw [this, Nat.pow_one] at h3
    rw [own_one hb h3] at h
    omega
  have h0 : 0 < half b n := by
    rcases hf.2.2 with y | y
    · exact y
    · omega
  have l := hf_low hb hf h0
  exact Hf.of hb hl (by omega) (by omega)
theorem high_spec {n : Nat} (hb : 2 ≤ b) : mir b (highM b n) = true ∧ n ≤ highM b n ∧ ∀ m, mir b m = true → n ≤ m → highM b n ≤ m := by
  have hf := hf_half (n := n) hb
  unfold highM
  by_cases h1 : own b n < n
  · rw [if_pos h1]
    have hf' := hf_succ hb h1
    have big : n < pal b (ln b n) (half b n + 1) := by
      obtain ⟨r, hr, e⟩ := pal_split hb hf'.le2
      rw [e]
      exact Nat.lt_of_lt_of_le (half_up hb) (Nat.le_add_right _ _)
    refine ⟨mir_pal hb hf', Nat.le_of_lt big, fun m hm hl => ?_⟩
    rcases Nat.lt_or_eq_of_le (ln_mono hb hl) with z | z
    · have a0 : 0 < m := Nat.pos_of_ne_zero fun q => by
        subst q
        rw [ln_one (n := 0) hb (by omega)] at z
        have := ln_pos (b := b) (n := n)
        omega
      have a1 := ln_low hb a0
      have a2 : b ^ ln b n ≤ b ^ (ln b m - 1) := Nat.pow_le_pow_right (by omega) (by omega)
      have a3 := ln_high (n := pal b (ln b n) (half b n + 1)) hb
      rw [ln_pal hb hf'] at a3
      omega
    · have q := half_mono hb hl z
      have ne : half b m ≠ half b n := fun e => by
        have : m = own b n := by rw [mir_eq hb hm, ← z, e]
        omega
      have hfm := hf_half (n := m) hb
      rw [← z] at hfm
      rw [mir_eq hb hm, ← z]
      rcases Nat.lt_or_eq_of_le (show half b n + 1 ≤ half b m by omega) with y | y
      · exact Nat.le_of_lt (pal_mono hb hf'.le2 hfm.le2 y)
      · rw [y]
        exact Nat.le_refl _
  · rw [if_neg h1, Nat.add_zero]
    refine ⟨mir_pal hb hf, Nat.le_of_not_lt h1, fun m hm hl => ?_⟩
    rcases Nat.lt_or_eq_of_le (ln_mono hb hl) with z | z
    · have a0 : 0 < m := Nat.pos_of_ne_zero fun q => by
        subst q
        rw [ln_one (n := 0) hb (by omega)] at z
        have := ln_pos (b := b) (n := n)
        omega
      have a1 := ln_low hb a0
      have a2 : b ^ ln b n ≤ b ^ (ln b m - 1) := Nat.pow_le_pow_right (by omega) (by omega)
      have a3 := ln_high (n := own b n) hb
      rw [ln_pal hb hf] at a3
      exact Nat.le_of_lt (Nat.lt_of_lt_of_le a3 (Nat.le_trans a2 a1))
    · exact mir_ge hb hm hl z.symm
/-- how many mirrored numbers there are from 1 -/
def cnt (b : Nat) : Nat → Nat
  | 0 => 0
  | n + 1 => cnt b n + if mir b (n + 1) = true then 1 else 0
def ofSize (b s : Nat) : Nat := (b - 1) * b ^ ((s - 1) / 2)
def below (b : Nat) : Nat → Nat
  | 0 => 0
  | s + 1 => below b s + if s = 0 then 0 else ofSize b s
def manyF (b n : Nat) : Nat := if n = 0 then 0 else half b n - b ^ ((ln b n - 1) / 2) + (if own b n ≤ n then 1 else 0) + below b (ln b n)
theorem mir_iff {n : Nat} (hb : 2 ≤ b) : mir b n = true ↔ own b n = n := ⟨fun h => (mir_eq hb h).symm, fun h => by rw [← h]; exact mir_pal hb (hf_half hb)⟩
theorem many_succ {n : Nat} (hb : 2 ≤ b) : manyF b (n + 1) = manyF b n + if mir b (n + 1) = true then 1 else 0 := by
  have hf := hf_half (n := n + 1) hb
  have hf0 := hf_half (n := n) hb
  by_cases hn : n = 0
  · subst hn
    have l1 : ln b 1 = 1 := ln_one hb (by omega)
    have o1 : own b 1 = 1 := own_one hb (by omega)
    have h1 : half b 1 = 1 := by
      unfold half
      rw [l1, show 1 / 2 = 0 by decide, Nat.pow_zero, Nat.div_one]
    have m1 : mir b 1 = true := (mir_iff hb).mpr o1
    unfold manyF
    rw [if_neg (by decide), if_pos rfl, if_pos m1, if_pos (by rw [o1]; exact Nat.le_refl _), l1, h1]
    simp [below]
  · have e1 : manyF b (n + 1) = half b (n + 1) - b ^ ((ln b (n + 1) - 1) / 2) + (if own b (n + 1) ≤ n + 1 then 1 else 0) + below b (ln b (n + 1)) := if_neg (by omega)
    have e0 : manyF b n = half b n - b ^ ((ln b n - 1) / 2) + (if own b n ≤ n then 1 else 0) + below b (ln b n) := if_neg hn
    rcases Nat.lt_or_eq_of_le (ln_mono hb (Nat.le_succ n)) with z | z
    · -- a length ends
      have z' : ln b n < ln b (n + 1) := z
      have a1 := ln_high (n := n) hb
      have a2 := ln_low hb (show 0 < n + 1 by omega)
      have a3 : b ^ ln b n ≤ b ^ (ln b (n + 1) - 1) := Nat.pow_le_pow_right (by omega) (by omega)
      have en : n + 1 = b ^ ln b n := by omega
      have el : ln b (n + 1) = ln b n + 1 := by
        have : b ^ (ln b (n + 1) - 1) = b ^ ln b n := by omega
        have := (Nat.pow_right_inj (by omega)).mp this
        omega
      generalize hs : ln b n = s at *
      have hs1 : 1 ≤ s := by rw [← hs]; exact ln_pos
      -- n is the top
      obtain ⟨t1, t2⟩ := mir_top hb (s := s) hs1
      have en' : n = b ^ s - 1 := by omega
      have mn : mir b n = true := by rw [en']; exact t1
      have on : own b n = n := (mir_iff hb).mp mn
      have hh : half b n + 1 = b ^ ((s + 1) / 2) := by
        unfold half
        rw [hs, en']
        have p1 := pow_parts (b := b) s
        have hp : 0 < b ^ (s / 2) := Nat.pow_pos (by omega)
        have hq : 0 < b ^ ((s + 1) / 2) := Nat.pow_pos (by omega)
        have : b ^ s - 1 = b ^ (s / 2) * (b ^ ((s + 1) / 2) - 1) + (b ^ (s / 2) - 1) := by
          have q1 : b ^ (s / 2) ≤ b ^ (s / 2) * b ^ ((s + 1) / 2) := Nat.le_mul_of_pos_right _ hq
          rw [Nat.mul_comm] at p1
          rw [Nat.mul_sub_one, p1]
          rw [p1] at q1
          omega
        rw [this, Nat.mul_add_div hp, Nat.div_eq_of_lt (Nat.sub_lt hp Nat.one_pos), Nat.add_zero]
        exact Nat.sub_add_cancel hq
      have hh1 : half b (n + 1) = b ^ (s / 2) := by
        unfold half
        rw [el, en]
        refine Nat.div_eq_of_eq_mul_left (Nat.pow_pos (by omega)) ?_
        rw [← Nat.pow_add]
        congr 1
        omega
      have ho1 : ¬ own b (n + 1) ≤ n + 1 := by
        obtain ⟨r, hr, e⟩ := pal_split hb hf.le2
        have hm : mir b (own b (n + 1)) = true := mir_pal hb hf
        intro q
        have q2 : own b (n + 1) = n + 1 := by
          have : half b (n + 1) * b ^ (ln b (n + 1) / 2) = n + 1 := by
            rw [hh1, el, en, ← Nat.pow_add]
            congr 1
            omega
          unfold own at q ⊢
          omega
        -- b ^ s is not mirrored: its last figure is 0
        have q3 : mir b (n + 1) = true := (mir_iff hb).mpr q2
        have q4 : figs b (n + 1) = (figs b (n + 1)).reverse := of_decide_eq_true q3
        have q5 : digs b (n + 1) = figs b (n + 1) := by
          rw [q4]
          unfold figs
          rw [List.reverse_reverse]
        have q6 : (digs b (n + 1)).head? = some 0 := by
          have hb' : b ≤ n + 1 := by
            rw [en]
            calc b = b ^ 1 := (Nat.pow_one b).symm
              _ ≤ b ^ s := Nat.pow_le_pow_right (by omega) hs1
          rw [digs_ge hb hb', List.head?_cons, en]
          congr 1
          obtain ⟨k, rfl⟩ : ∃ k, s = k + 1 := ⟨s - 1, by omega⟩
          rw [Nat.pow_succ]
          exact Nat.mul_mod_left _ _
        rw [q5] at q6
        have := figs_head hb (n + 1) (by omega) 0 q6
        omega
      have hm1 : ¬ mir b (n + 1) = true := fun q => ho1 (by rw [(mir_iff hb).mp q]; exact Nat.le_refl _)
      rw [e1, e0, if_neg ho1, if_neg hm1, if_pos (by rw [on]; exact Nat.le_refl _), el, hh1]
      have eb : below b (s + 1) = below b s + ofSize b s := by
        show below b s + (if s = 0 then 0 else ofSize b s) = _
        rw [if_neg (by omega)]
      have eo : ofSize b s + b ^ ((s - 1) / 2) = b ^ ((s + 1) / 2) := by
        unfold ofSize
        rw [← Nat.succ_mul, Nat.succ_eq_add_one, Nat.sub_add_cancel (by omega), show (s + 1) / 2 = (s - 1) / 2 + 1 by omega, Nat.pow_succ, Nat.mul_comm]
      rw [eb, show (s + 1 - 1) / 2 = s / 2 by omega, Nat.sub_self]
      have hl : b ^ ((s - 1) / 2) ≤ half b n := by
        have := hf_low hb hf0 (Nat.pos_of_ne_zero fun q => by
          rw [q] at hh
          have : b ^ 1 ≤ b ^ ((s + 1) / 2) := Nat.pow_le_pow_right (by omega) (by omega)
          rw [Nat.pow_one] at this
          omega)
        exact this
      omega
    · -- one length
      have z' : ln b n = ln b (n + 1) := z
      have hp : 0 < b ^ (ln b (n + 1) / 2) := Nat.pow_pos (by omega)
      have lo0 := half_low (b := b) (n := n)
      have up0 := half_up (n := n) hb
      have lo1 := half_low (b := b) (n := n + 1)
      have up1 := half_up (n := n + 1) hb
      rw [z'] at lo0 up0
      have hn0 : 0 < half b n := by
        rcases hf0.2.2 with y | y
        · exact y
        · have : half b n = n := by
            unfold half
            rw [y, show 1 / 2 = 0 by decide, Nat.pow_zero, Nat.div_one]
          omega
      have l0 := hf_low hb hf0 hn0
      rw [z'] at l0
      by_cases hc : half b (n + 1) = half b n
      · -- the same half
        have ow : own b (n + 1) = own b n := by
          unfold own
          rw [hc, z']
        rw [e1, e0, z', hc, ow]
        by_cases m1 : mir b (n + 1) = true
        · have := (mir_iff hb).mp m1
          rw [ow] at this
          rw [if_pos m1, if_pos (by omega), if_neg (by omega)]
          omega
        · have ne : own b n ≠ n + 1 := fun q => m1 ((mir_iff hb).mpr (ow.trans q))
          rw [if_neg m1]
          by_cases q : own b n ≤ n
          · rw [if_pos q, if_pos (by omega)]
            omega
          · rw [if_neg q, if_neg (by omega)]
            omega
      · -- the next half
        have hm := half_mono hb (Nat.le_succ n) z'
        have hlt : half b n + 1 ≤ half b (n + 1) := by
          have : half b n ≤ half b (n + 1) := hm
          omega
        have mul := Nat.mul_le_mul_right (b ^ (ln b (n + 1) / 2)) hlt
        have en : n + 1 = half b (n + 1) * b ^ (ln b (n + 1) / 2) := by omega
        have eh : half b (n + 1) = half b n + 1 := by
          refine Nat.le_antisymm ?_ hlt
          refine Nat.le_of_mul_le_mul_right ?_ hp
          omega
        have on : own b n ≤ n := by
          obtain ⟨r, hr, e⟩ := pal_split hb hf0.le2
          show pal b (ln b n) (half b n) ≤ n
          rw [e, z']
          rw [z'] at hr
          have : (half b n + 1) * b ^ (ln b (n + 1) / 2) = half b n * b ^ (ln b (n + 1) / 2) + b ^ (ln b (n + 1) / 2) := by rw [Nat.add_mul, Nat.one_mul]
          rw [eh, this] at en
          omega
        rw [e1, e0, z', if_pos on, eh]
        by_cases m1 : mir b (n + 1) = true
        · have := (mir_iff hb).mp m1
          rw [if_pos m1, if_pos (by omega)]
          omega
        · have ge : n + 1 ≤ own b (n + 1) := by
            obtain ⟨r, hr, e⟩ := pal_split hb hf.le2
            show n + 1 ≤ pal b (ln b (n + 1)) (half b (n + 1))
            rw [e, ← en]
            exact Nat.le_add_right _ _
          have ne : own b (n + 1) ≠ n + 1 := fun q => m1 ((mir_iff hb).mpr q)
          rw [if_neg m1, if_neg (by omega)]
          omega
theorem many_cnt (hb : 2 ≤ b) : ∀ n, manyF b n = cnt b n
  | 0 => rfl
  | n + 1 => by rw [many_succ hb, many_cnt hb n]; rfl
end
end Mi

namespace Mi
section
variable {b : Nat}
theorem cnt_mono {m n : Nat} (h : m ≤ n) : cnt b m ≤ cnt b n := by
  induction n with
  | zero =>
    rw [Nat.le_zero.mp h]
    exact Nat.le_refl _
  | succ n ih =>
    rcases Nat.lt_or_eq_of_le h with z | z
    · exact Nat.le_trans (ih (by omega)) (Nat.le_add_right _ _)
    · rw [z]
      exact Nat.le_refl _
theorem cnt_lt {m n : Nat} (h : m < n) (hm : mir b n = true) : cnt b m < cnt b n := by
  obtain ⟨k, rfl⟩ : ∃ k, n = k + 1 := ⟨n - 1, by omega⟩
  have h1 : cnt b m ≤ cnt b k := cnt_mono (by omega)
  show cnt b m < cnt b k + if mir b (k + 1) = true then 1 else 0
  rw [if_pos hm]
  omega
theorem cnt_inj {m n : Nat} (hm : mir b m = true) (hn : mir b n = true) (h : cnt b m = cnt b n) : m = n := by
  rcases Nat.lt_trichotomy m n with z | z | z
  · have := cnt_lt z hn
    omega
  · exact z
  · have := cnt_lt z hm
    omega
theorem cnt_le (n : Nat) : cnt b n ≤ n := by
  induction n with
  | zero => exact Nat.le_refl _
  | succ n ih =>
    show cnt b n + (if mir b (n + 1) = true then 1 else 0) ≤ n + 1
    split <;> omega
theorem ofSize_add {s : Nat} (hb : 2 ≤ b) (hs : 1 ≤ s) : ofSize b s + b ^ ((s - 1) / 2) = b ^ ((s + 1) / 2) := by
  unfold ofSize
  rw [← Nat.succ_mul, Nat.succ_eq_add_one, Nat.sub_add_cancel (by omega), show (s + 1) / 2 = (s - 1) / 2 + 1 by omega, Nat.pow_succ, Nat.mul_comm]
theorem below_succ {s : Nat} (hs : 1 ≤ s) : below b (s + 1) = below b s + ofSize b s := by
  show below b s + (if s = 0 then 0 else ofSize b s) = _
  rw [if_neg (by omega)]
theorem ofSize_pos {s : Nat} (hb : 2 ≤ b) : 0 < ofSize b s := Nat.mul_pos (by omega) (Nat.pow_pos (by omega))
theorem ofSize_ge {s : Nat} (hb : 2 ≤ b) : 2 ^ ((s - 1) / 2) ≤ ofSize b s := by
  unfold ofSize
  calc 2 ^ ((s - 1) / 2) ≤ b ^ ((s - 1) / 2) := Nat.pow_le_pow_left hb _
    _ = 1 * b ^ ((s - 1) / 2) := (Nat.one_mul _).symm
    _ ≤ (b - 1) * b ^ ((s - 1) / 2) := Nat.mul_le_mul_right _ (by omega)
theorem below_size {s k : Nat} (hb : 2 ≤ b) (hs : 1 ≤ s) (h : below b s ≤ k) (hk : k < lim) : s ≤ 1402 := by
  refine Nat.le_of_not_lt fun z => ?_
  have e : below b s = below b (s - 1) + ofSize b (s - 1) := by
    have := below_succ (b := b) (s := s - 1) (by omega)
    rwa [show s - 1 + 1 = s by omega] at this
  have h1 := ofSize_ge (s := s - 1) hb
  have h2 : 2 ^ 700 ≤ 2 ^ ((s - 1 - 1) / 2) := Nat.pow_le_pow_right (by omega) (by omega)
  have h3 := lim_pow
  omega
/-- the so-manieth, by its size -/
theorem at_spec {s left : Nat} (hb : 2 ≤ b) (hs : 1 ≤ s) (h : left < ofSize b s) : mir b (pal b s (b ^ ((s - 1) / 2) + left)) = true ∧ cnt b (pal b s (b ^ ((s - 1) / 2) + left)) = left + 1 + below b s ∧ 0 < pal b s (b ^ ((s - 1) / 2) + left) ∧ pal b s (b ^ ((s - 1) / 2) + left) < b ^ s := by
  have hp : 0 < b ^ ((s - 1) / 2) := Nat.pow_pos (by omega)
  have hf : Hf b s (b ^ ((s - 1) / 2) + left) := Hf.of hb hs (Nat.le_add_right _ _) (by rw [← ofSize_add hb hs]; omega)
  have hm := mir_pal hb hf
  have hl := ln_pal hb hf
  have hh := half_pal hb hf
  have h0 : 0 < pal b s (b ^ ((s - 1) / 2) + left) := by
    obtain ⟨r, hr, e⟩ := pal_split hb hf.le2
    rw [e]
    have : 0 < (b ^ ((s - 1) / 2) + left) * b ^ (s / 2) := Nat.mul_pos (by omega) (Nat.pow_pos (by omega))
    omega
  refine ⟨hm, ?_, h0, ?_⟩
  · rw [← many_cnt hb]
    unfold manyF
    rw [if_neg (by omega), if_pos (by rw [(mir_iff hb).mp hm]; exact Nat.le_refl _), hl, hh]
    omega
  · have := ln_high (n := pal b s (b ^ ((s - 1) / 2) + left)) hb
    rwa [hl] at this
theorem low_le {n : Nat} (hb : 2 ≤ b) : lowM b n ≤ n := (low_spec hb).2.1
theorem low_mir {n : Nat} (hb : 2 ≤ b) : mir b (lowM b n) = true := (low_spec hb).1
theorem low_max {n m : Nat} (hb : 2 ≤ b) (hm : mir b m = true) (h : m ≤ n) : m ≤ lowM b n := (low_spec hb).2.2 m hm h
theorem high_ge {n : Nat} (hb : 2 ≤ b) : n ≤ highM b n := (high_spec hb).2.1
theorem high_mir {n : Nat} (hb : 2 ≤ b) : mir b (highM b n) = true := (high_spec hb).1
theorem high_min {n m : Nat} (hb : 2 ≤ b) (hm : mir b m = true) (h : n ≤ m) : highM b n ≤ m := (high_spec hb).2.2 m hm h
theorem low_self {n : Nat} (hb : 2 ≤ b) (h : mir b n = true) : lowM b n = n := Nat.le_antisymm (low_le hb) (low_max hb h (Nat.le_refl _))
theorem high_self {n : Nat} (hb : 2 ≤ b) (h : mir b n = true) : highM b n = n := Nat.le_antisymm (high_min hb h (Nat.le_refl _)) (high_ge hb)
theorem mir_zero (hb : 2 ≤ b) : mir b 0 = true := (mir_iff hb).mpr (own_one hb (by omega))
theorem mir_small {n : Nat} (hb : 2 ≤ b) (h : n < b) : mir b n = true := (mir_iff hb).mpr (own_one hb h)
theorem low_pos {n : Nat} (hb : 2 ≤ b) (h : 0 < n) : 0 < lowM b n := low_max hb (mir_small hb (show 1 < b by omega)) h
theorem high_lt {n : Nat} (hb : 2 ≤ b) : highM b n < b ^ ln b n := by
  obtain ⟨t1, t2⟩ := mir_top hb (s := ln b n) ln_pos
  have h1 := ln_high (n := n) hb
  have := high_min hb t1 (show n ≤ b ^ ln b n - 1 by omega)
  have hp : 0 < b ^ ln b n := Nat.pow_pos (by omega)
  omega
theorem high_bound {n : Nat} (hb : 2 ≤ b) (hb2 : b ≤ 36) : highM b n ≤ 36 * (n + 1) := by
  have h1 := high_lt (n := n) hb
  by_cases hn : n = 0
  · subst hn
    rw [high_self hb (mir_zero hb)]
    omega
  · have h2 := ln_low hb (show 0 < n by omega)
    have h3 : b ^ ln b n = b ^ (ln b n - 1) * b := by
      rw [← Nat.pow_succ]
      congr 1
      have := ln_pos (b := b) (n := n)
      omega
    have h4 : b ^ (ln b n - 1) * b ≤ n * 36 := Nat.mul_le_mul h2 hb2
    omega
/-- how many to a number is the place of the greatest at most it -/
theorem cnt_low {n : Nat} (hb : 2 ≤ b) : cnt b (lowM b n) = cnt b n := by
  refine Nat.le_antisymm (cnt_mono (low_le hb)) ?_
  have key : ∀ k, lowM b n + k ≤ n → cnt b (lowM b n + k) = cnt b (lowM b n) := by
    intro k
    induction k with
    | zero => intro _; rfl
    | succ k ih =>
      intro hk
      have e : cnt b (lowM b n + (k + 1)) = cnt b (lowM b n + k) + if mir b (lowM b n + k + 1) = true then 1 else 0 := rfl
      have nm : ¬ mir b (lowM b n + k + 1) = true := fun z => by
        have := low_max hb z (show lowM b n + k + 1 ≤ n by omega)
        omega
      rw [e, if_neg nm, ih (by omega)]
      rfl
  have := key (n - lowM b n) (by have := low_le (n := n) hb; omega)
  rw [show lowM b n + (n - lowM b n) = n by have := low_le (n := n) hb; omega] at this
  omega
end
end Mi

/-! what the defs of nearest promise -/
namespace Mi
open PySem PySem.Spec PyProof.Rows L2
def lim1 : Nat := 10 ^ 150
theorem lim1_lim {n : Nat} (h : n < lim1) : 1000 * (n + 1) < lim := by
  have : 1000 * (lim1 + 1) < lim := by decide +kernel
  omega
/-- of a base, or none -/
def NB (K : PySem.W.Frag) (C : Str → Addr) (H : Hp) (E : XK) (x : V) (P : Nat → Prop) : Prop := Kn K H x ∧ (isBase x = false → E (.ref (C "NoBase")) none H) ∧ ∀ b : Nat, x = .int b → 2 ≤ b → b ≤ 36 → P b
theorem NB.good {K : PySem.W.Frag} {C : Str → Addr} {H : Hp} {E : XK} {b : Nat} {P : Nat → Prop} (hb : 2 ≤ b) (hb2 : b ≤ 36) (h : P b) : NB K C H E (.int b) P := by
  refine ⟨trivial, fun e => ?_, fun b' e _ _ => ?_⟩
  · exfalso
    have : isBase (.int (b : Nat)) = true := by simp [isBase]; omega
    rw [this] at e
    cases e
  · simp only [V.int.injEq] at e
    have : b = b' := by omega
    subst this
    exact h
theorem NB.need {K : PySem.W.Frag} {C : Str → Addr} {H : Hp} {Q : VK} {E : XK} {x : V} {P : Nat → Prop} (h : NB K C H E x P) (q : ∀ b : Nat, x = .int b → 2 ≤ b → b ≤ 36 → P b → Q .non H) : sp_need_base K C [x] H Q E := by
  refine ⟨x, rfl, h.1, fun hb => ?_, h.2.1⟩
  cases x with
  | int i =>
    simp only [isBase, Bool.and_eq_true, decide_eq_true_eq] at hb
    obtain ⟨b, rfl⟩ := Int.eq_ofNat_of_zero_le (show 0 ≤ i by omega)
    exact q b rfl (by omega) (by omega) (h.2.2 b rfl (by omega) (by omega))
  | _ => cases hb
def sp_power_of (K : PySem.W.Frag) (C : Str → Addr) : Sp := sp__law_power K C
def sp_half_of (K : PySem.W.Frag) (C : Str → Addr) : Sp := fun vs H Q E => ∃ n b : Nat, vs = [.int n, .int b] ∧ 2 ≤ b ∧ b ≤ 36 ∧ n < lim ∧ ∀ p H', Led H [(p, .tup [.int (ln b n : Nat), .int (half b n : Nat)])] H' → Q (.ref p) H'
def sp_mirror_of (K : PySem.W.Frag) (C : Str → Addr) : Sp := fun vs H Q E => ∃ h s b : Nat, vs = [.int h, .int s, .int b] ∧ 2 ≤ b ∧ b ≤ 36 ∧ h < lim ∧ s ≤ 100000 ∧ ∀ H', Led H [] H' → Q (.int (pal b s h : Nat)) H'
def sp_at_most (K : PySem.W.Frag) (C : Str → Addr) : Sp := fun vs H Q E => ∃ y x : V, vs = [y, x] ∧ NB K C H E x fun b => ∃ n : Nat, y = .int n ∧ n < lim1 ∧ ∀ H', Led H [] H' → Q (.int (lowM b n : Nat)) H'
def sp_at_least (K : PySem.W.Frag) (C : Str → Addr) : Sp := fun vs H Q E => ∃ y x : V, vs = [y, x] ∧ NB K C H E x fun b => ∃ n : Nat, y = .int n ∧ n < lim1 ∧ ∀ H', Led H [] H' → Q (.int (highM b n : Nat)) H'
def sp_many_of_size (K : PySem.W.Frag) (C : Str → Addr) : Sp := fun vs H Q E => ∃ s b : Nat, vs = [.int s, .int b] ∧ 1 ≤ s ∧ s ≤ 100000 ∧ 2 ≤ b ∧ b ≤ 36 ∧ Q (.int (ofSize b s : Nat)) H
def sp_many_to (K : PySem.W.Frag) (C : Str → Addr) : Sp := fun vs H Q E => ∃ y x : V, vs = [y, x] ∧ NB K C H E x fun b => ∃ n : Nat, y = .int n ∧ n < lim1 ∧ ∀ H', Led H [] H' → Q (.int (cnt b n : Nat)) H'
def sp_mirrored_at (K : PySem.W.Frag) (C : Str → Addr) : Sp := fun vs H Q E => ∃ y x : V, vs = [y, x] ∧ NB K C H E x fun b => ∃ n : Nat, y = .int n ∧ n < lim1 ∧ ∀ H' (r : Nat), mir b r = true → cnt b r = n → r ≤ 50000 * (n + 1) * (n + 1) → Led H [] H' → Q (.int r) H'
/-- whether a thing is a mirrored number -/
def mirV (b : Nat) : V → Bool
  | .int i => decide (0 ≤ i) && mir b i.toNat
  | _ => false
def Lim (n : Nat) : V → Prop
  | .int i => i < n
  | _ => True
def sp_is_mirrored (K : PySem.W.Frag) (C : Str → Addr) : Sp := fun vs H Q E => ∃ y x : V, vs = [y, x] ∧ NB K C H E x fun b => Kn K H y ∧ Lim lim y ∧ ∀ H', Led H [] H' → Q (.bl (mirV b y)) H'
def sp_place_of (K : PySem.W.Frag) (C : Str → Addr) : Sp := fun vs H Q E => ∃ y x : V, vs = [y, x] ∧ NB K C H E x fun b => Kn K H y ∧ Lim lim1 y ∧ (mirV b y = false → ∀ H', Led H [] H' → E (.ref (C "NoMirror")) none H') ∧ ∀ n : Nat, y = .int n → mir b n = true → ∀ H', Led H [] H' → Q (.int (cnt b n : Nat)) H'
end Mi

/-! powers, and the next mirrored one -/
namespace Mi
variable {b : Nat}
theorem val_rep0 (m : Nat) : val b (List.replicate m 0) = 0 := by
  induction m with
  | zero => rfl
  | succ m ih => rw [List.replicate_succ, val_cons, ih]; simp
theorem figs_pow (hb : 2 ≤ b) (k : Nat) : figs b (b ^ k) = 1 :: List.replicate k 0 := by
  have h := figs_val hb (1 :: List.replicate k 0) (by simp) (fun d hd => by
    rcases List.mem_cons.mp hd with e | e
    · omega
    · rw [(List.mem_replicate.mp e).2]
      omega) (Or.inr fun d hd => by
    cases hd
    decide)
  rw [val_cons, val_rep0, List.length_replicate] at h
  simpa using h
theorem ln_pow (hb : 2 ≤ b) (k : Nat) : ln b (b ^ k) = k + 1 := by
  show (figs b (b ^ k)).length = k + 1
  rw [figs_pow hb]
  simp
theorem half_pow (hb : 2 ≤ b) (k : Nat) : half b (b ^ k) = b ^ (k / 2) := by
  unfold half
  rw [ln_pow hb, Nat.pow_div (by omega) (by omega)]
  congr 1
  omega
theorem own_pow (hb : 2 ≤ b) {k : Nat} (hk : 1 ≤ k) : own b (b ^ k) = b ^ k + 1 := by
  show pal b (ln b (b ^ k)) (half b (b ^ k)) = _
  rw [ln_pow hb, half_pow hb]
  unfold pal
  rw [figs_pow hb]
  have e : (k + 1) / 2 = (k + 1) / 2 - 1 + 1 := by omega
  rw [e, List.take_succ_cons, List.reverse_cons, List.take_replicate, List.reverse_replicate, val_append, val_append, val_rep0, val_cons, val_rep0, val_one]
  simp only [List.length_append, List.length_replicate, List.length_cons, List.length_nil, Nat.one_mul, Nat.add_zero, Nat.zero_mul, Nat.zero_add]
  rw [← Nat.pow_add]
  congr 2
  omega
theorem low_pow (hb : 2 ≤ b) {k : Nat} (hk : 1 ≤ k) : lowM b (b ^ k) = b ^ k - 1 := by
  unfold lowM
  rw [if_neg (by rw [own_pow hb hk]; omega), if_pos (by rw [half_pow hb, ln_pow hb]; congr 1), ln_pow hb]
  rfl
theorem mir_pow1 (hb : 2 ≤ b) {k : Nat} (hk : 1 ≤ k) : mir b (b ^ k + 1) = true := by
  rw [← own_pow hb hk]
  exact mir_pal hb (hf_half hb)
theorem not_mir_pow (hb : 2 ≤ b) {k : Nat} (hk : 1 ≤ k) : mir b (b ^ k) = false := by
  cases e : mir b (b ^ k) with
  | false => rfl
  | true =>
    have := (mir_iff hb).mp e
    rw [own_pow hb hk] at this
    omega
theorem high_pow (hb : 2 ≤ b) {k : Nat} (hk : 1 ≤ k) : highM b (b ^ k) = b ^ k + 1 := by
  have h1 := high_ge (n := b ^ k) hb
  have h2 := high_min hb (mir_pow1 hb hk) (Nat.le_succ _)
  have h3 : highM b (b ^ k) ≠ b ^ k := fun e => by
    have := high_mir (n := b ^ k) hb
    rw [e, not_mir_pow hb hk] at this
    cases this
  omega
theorem figs_top (hb : 2 ≤ b) {s : Nat} (hs : 1 ≤ s) : figs b (b ^ s - 1) = List.replicate s (b - 1) := by
  have e : ∀ s, val b (List.replicate s (b - 1)) = b ^ s - 1 := by
    intro s
    induction s with
    | zero => rfl
    | succ s ih =>
      rw [List.replicate_succ, val_cons, ih, List.length_replicate, Nat.pow_succ, Nat.sub_mul]
      have h1 : 0 < b ^ s := Nat.pow_pos (by omega)
      have h2 : b ^ s ≤ b * b ^ s := Nat.le_mul_of_pos_left _ (by omega)
      rw [Nat.mul_comm (b ^ s) b]
      omega
  rw [← e]
  refine figs_val hb _ (by simp; omega) (fun d hd => ?_) (Or.inr fun d hd => ?_)
  · rw [(List.mem_replicate.mp hd).2]
    omega
  · rw [List.head?_replicate] at hd
    split at hd
    · cases hd
    · cases hd
      omega
/-- all figures the greatest -/
theorem all_top (hb : 2 ≤ b) {n : Nat} : (∀ d ∈ figs b n, d = b - 1) ↔ n = b ^ ln b n - 1 := by
  constructor
  · intro h
    have e : figs b n = List.replicate (ln b n) (b - 1) := List.eq_replicate_of_mem h
    have h2 := congrArg (val b) e
    rw [val_figs hb, ← figs_top hb ln_pos, val_figs hb] at h2
    exact h2
  · intro h d hd
    rw [h, figs_top hb ln_pos] at hd
    exact (List.mem_replicate.mp hd).2
theorem next_top (hb : 2 ≤ b) {n : Nat} (h : n = b ^ ln b n - 1) : highM b (n + 1) = n + 2 := by
  have h0 : 0 < b ^ ln b n := Nat.pow_pos (by omega)
  have e : n + 1 = b ^ ln b n := by omega
  rw [e, high_pow hb ln_pos]
  omega
theorem next_same (hb : 2 ≤ b) {n : Nat} (hm : mir b n = true) (h : n ≠ b ^ ln b n - 1) : highM b (n + 1) = pal b (ln b n) (half b n + 1) := by
  have hf := hf_half (n := n) hb
  have en := mir_eq hb hm
  have hlt : half b n + 1 < b ^ ((ln b n + 1) / 2) := by
    have h1 := hf_high hb hf
    by_cases c : half b n + 1 = b ^ ((ln b n + 1) / 2)
    · exfalso
      apply h
      obtain ⟨t1, t2⟩ := mir_top (b := b) (s := ln b n) hb ln_pos
      have h2 := mir_ge (m := b ^ ln b n - 1) (n := n) hb t1 (by have := ln_high (n := n) hb; omega) t2
      have h3 := mir_le (m := b ^ ln b n - 1) (n := b ^ ln b n - 1) hb t1 (Nat.le_refl _) rfl
      rw [t2] at h3
      have h4 : half b (b ^ ln b n - 1) ≤ half b n := by
        have := hf_high hb (hf_half (n := b ^ ln b n - 1) hb)
        rw [t2] at this
        omega
      have h5 : pal b (ln b n) (half b (b ^ ln b n - 1)) ≤ pal b (ln b n) (half b n) := by
        rcases Nat.lt_or_eq_of_le h4 with h6 | h6
        · have hf2 := hf_half (n := b ^ ln b n - 1) hb
          rw [t2] at hf2
          exact Nat.le_of_lt (pal_mono hb hf2.le2 hf.le2 h6)
        · rw [h6]
          exact Nat.le_refl _
      rw [← en] at h2 h5
      omega
    · omega
  have hf1 : Hf b (ln b n) (half b n + 1) := by
    by_cases c : 0 < half b n
    · exact Hf.of hb hf.1 (Nat.le_succ_of_le (hf_low hb hf c)) hlt
    · have e1 : ln b n = 1 := by
        rcases hf.2.2 with z | z
        · omega
        · exact z
      refine Hf.of hb hf.1 ?_ hlt
      rw [e1]
      simp
  have hmono : n < pal b (ln b n) (half b n + 1) := by
    have := pal_mono hb hf.le2 hf1.le2 (Nat.lt_succ_self (half b n))
    omega
  apply Nat.le_antisymm
  · exact high_min hb (mir_pal hb hf1) hmono
  · have hm2 := high_mir (n := n + 1) hb
    have hg := high_ge (n := n + 1) hb
    generalize highM b (n + 1) = m at hm2 hg
    have em := mir_eq hb hm2
    have hl := ln_mono hb (show n ≤ m by omega)
    rcases Nat.lt_or_eq_of_le hl with c | c
    · have h1 := ln_high (n := pal b (ln b n) (half b n + 1)) hb
      rw [ln_pal hb hf1] at h1
      have h2 := ln_low (n := m) hb (by omega)
      have h3 : b ^ ln b n ≤ b ^ (ln b m - 1) := Nat.pow_le_pow_right (by omega) (by omega)
      omega
    · have hh := half_mono hb (show n ≤ m by omega) c
      have hne : half b n ≠ half b m := fun z => by
        rw [← c, ← z, ← en] at em
        omega
      rw [em, ← c]
      rcases Nat.lt_or_eq_of_le (show half b n + 1 ≤ half b m by omega) with z | z
      · have hfm := hf_half (n := m) hb
        rw [← c] at hfm
        exact Nat.le_of_lt (pal_mono hb hf1.le2 hfm.le2 z)
      · rw [z]
        exact Nat.le_refl _
/-- no mirrored one between -/
theorem low_next (hb : 2 ≤ b) {n : Nat} : n < highM b (lowM b n + 1) := by
  apply Nat.lt_of_not_le
  intro h
  have h1 := low_max hb (high_mir (n := lowM b n + 1) hb) h
  have h2 := high_ge (n := lowM b n + 1) hb
  omega
theorem high_next (hb : 2 ≤ b) {n : Nat} (h : n < highM b n) : highM b n = highM b (lowM b n + 1) := by
  have h1 : lowM b n ≠ n := fun e => by
    have := low_mir (n := n) hb
    rw [e] at this
    have := high_self hb this
    omega
  have h2 := low_le (n := n) hb
  apply Nat.le_antisymm
  · exact high_min hb (high_mir hb) (Nat.le_of_lt (low_next hb))
  · exact high_min hb (high_mir hb) (Nat.le_trans (by omega) (high_ge (n := n) hb))
end Mi

/-! the few -/
namespace Mi
variable {b : Nat}
/-- a figure, noughts, the figure -/
theorem mir_ends (hb : 2 ≤ b) {d s : Nat} (hd : 0 < d) (hd2 : d < b) (hs : 1 ≤ s) : mir b (d * b ^ s + d) = true := by
  have h := figs_val hb (d :: (List.replicate (s - 1) 0 ++ [d])) (by simp) (fun x hx => by
    rcases List.mem_cons.mp hx with e | e
    · omega
    · rcases List.mem_append.mp e with e | e
      · rw [(List.mem_replicate.mp e).2]
        omega
      · rw [List.mem_singleton.mp e]
        exact hd2) (Or.inr fun x hx => by
    cases hx
    exact hd)
  rw [val_cons, val_append, val_rep0, val_one, List.length_append, List.length_replicate] at h
  have e : s - 1 + [d].length = s := by
    show s - 1 + 1 = s
    omega
  rw [e] at h
  unfold mir
  rw [show d * b ^ s + d = d * b ^ s + (0 * b ^ [d].length + d) by omega, h]
  apply decide_eq_true
  simp
theorem low_half (hb : 2 ≤ b) {n : Nat} : n ≤ 2 * lowM b n := by
  by_cases h0 : n = 0
  · omega
  by_cases h1 : n < b
  · rw [low_self hb (mir_small hb h1)]
    omega
  -- two figures at least
  have hl2 : 2 ≤ ln b n := by
    apply Nat.lt_of_not_le
    intro h
    have h2 := ln_high (n := n) hb
    have h3 : b ^ ln b n ≤ b ^ 1 := Nat.pow_le_pow_right (by omega) h
    rw [Nat.pow_one] at h3
    omega
  have hlow := ln_low (n := n) hb (by omega)
  have hhigh := ln_high (n := n) hb
  obtain ⟨s, es⟩ : ∃ s, ln b n = s + 1 := ⟨ln b n - 1, by omega⟩
  rw [es] at hlow hhigh
  rw [show s + 1 - 1 = s by omega] at hlow
  rw [Nat.pow_succ] at hhigh
  have hp : 0 < b ^ s := Nat.pow_pos (by omega)
  obtain ⟨d, ed⟩ : ∃ d, n / b ^ s = d := ⟨_, rfl⟩
  have hd1 : d * b ^ s ≤ n := by rw [← ed]; exact Nat.div_mul_le_self _ _
  have hd2 : n < (d + 1) * b ^ s := by rw [← ed]; exact Nat.lt_mul_of_div_lt (Nat.lt_succ_self _) hp
  have hd3 : d < b := by rw [← ed]; exact Nat.div_lt_of_lt_mul hhigh
  have hd0 : 0 < d := by rw [← ed]; exact Nat.div_pos hlow hp
  rw [Nat.succ_mul] at hd2
  have hbs : b ≤ b ^ s := by
    have : b ^ 1 ≤ b ^ s := Nat.pow_le_pow_right (by omega) (by omega)
    rwa [Nat.pow_one] at this
  by_cases c : d * b ^ s + d ≤ n
  · have h5 := low_max hb (mir_ends hb hd0 hd3 (show 1 ≤ s by omega)) c
    have h6 : b ^ s ≤ d * b ^ s := Nat.le_mul_of_pos_left _ hd0
    omega
  · by_cases c1 : d = 1
    · subst c1
      have h5 := low_max (n := n) hb (mir_top (b := b) (s := s) hb (by omega)).1 (by omega)
      omega
    · have h5 := low_max (n := n) hb (mir_ends hb (show 0 < d - 1 by omega) (by omega) (show 1 ≤ s by omega)) (by
        rw [Nat.sub_mul]
        omega)
      have h6 : 2 * b ^ s ≤ d * b ^ s := Nat.mul_le_mul_right _ (by omega)
      rw [Nat.sub_mul] at h5
      omega
/-- the greatest at most it, and so on -/
def fews (b n : Nat) : List Nat := if h : 0 < n ∧ 0 < lowM b n then lowM b n :: fews b (n - lowM b n) else []
termination_by n
decreasing_by omega
theorem fews_zero : fews b 0 = [] := by
  unfold fews
  rw [dif_neg (by omega)]
theorem fews_pos (hb : 2 ≤ b) {n : Nat} (hn : 0 < n) : fews b n = lowM b n :: fews b (n - lowM b n) := by
  conv => lhs; unfold fews
  rw [dif_pos ⟨hn, low_pos hb hn⟩]
theorem fews_ind (hb : 2 ≤ b) {P : Nat → Prop} (h0 : P 0) (hs : ∀ n, 0 < n → P (n - lowM b n) → P n) (n : Nat) : P n := by
  induction n using Nat.strongRecOn with
  | ind n ih =>
    by_cases h : n = 0
    · exact h ▸ h0
    · have := low_pos (n := n) hb (by omega)
      exact hs n (by omega) (ih _ (by omega))
theorem fews_sum (hb : 2 ≤ b) (n : Nat) : (fews b n).sum = n := by
  refine fews_ind hb (P := fun n => (fews b n).sum = n) (by rw [fews_zero]; rfl) (fun n hn ih => ?_) n
  rw [fews_pos hb hn, List.sum_cons, ih]
  have := low_le (n := n) hb
  omega
theorem fews_mir (hb : 2 ≤ b) (n : Nat) : ∀ m ∈ fews b n, mir b m = true ∧ 0 < m ∧ m ≤ n := by
  refine fews_ind hb (P := fun n => ∀ m ∈ fews b n, mir b m = true ∧ 0 < m ∧ m ≤ n) (by rw [fews_zero]; intro m hm; cases hm) (fun n hn ih => ?_) n
  rw [fews_pos hb hn]
  intro m hm
  rcases List.mem_cons.mp hm with e | e
  · subst e
    exact ⟨low_mir hb, low_pos hb hn, low_le hb⟩
  · obtain ⟨h1, h2, h3⟩ := ih m e
    exact ⟨h1, h2, by omega⟩
theorem fews_len (hb : 2 ≤ b) : ∀ (k n : Nat), n < 2 ^ k → (fews b n).length ≤ k := by
  intro k
  induction k with
  | zero =>
    intro n h
    have : n = 0 := by simpa using h
    subst this
    rw [fews_zero]
    exact Nat.le_refl _
  | succ k ih =>
    intro n h
    by_cases h0 : n = 0
    · subst h0
      rw [fews_zero]
      exact Nat.zero_le _
    · rw [fews_pos hb (by omega), List.length_cons]
      have h2 := low_half (n := n) hb
      rw [Nat.pow_succ] at h
      exact Nat.succ_le_succ (ih _ (by omega))
theorem fews_lim (hb : 2 ≤ b) {n : Nat} (h : n < lim) : (fews b n).length ≤ 700 := fews_len hb 700 n (Nat.lt_trans h lim_pow)
theorem fews_self (hb : 2 ≤ b) {n : Nat} (hn : 0 < n) (h : mir b n = true) : fews b n = [n] := by
  rw [fews_pos hb hn, low_self hb h, Nat.sub_self, fews_zero]
theorem fews_one (hb : 2 ≤ b) {n : Nat} (hn : 0 < n) : (fews b n).length = 1 ↔ mir b n = true := by
  constructor
  · intro h
    rw [fews_pos hb hn, List.length_cons] at h
    have h2 := low_le (n := n) hb
    by_cases c : n - lowM b n = 0
    · have e : lowM b n = n := by omega
      rw [← e]
      exact low_mir hb
    · rw [fews_pos hb (by omega), List.length_cons] at h
      omega
  · intro h
    rw [fews_self hb hn h]
    rfl
/-- none greater than the one ahead -/
theorem fews_fall (hb : 2 ≤ b) (n : Nat) : ∀ i x y, (fews b n)[i]? = some x → (fews b n)[i + 1]? = some y → y ≤ x := by
  refine fews_ind hb (P := fun n => ∀ i x y, (fews b n)[i]? = some x → (fews b n)[i + 1]? = some y → y ≤ x) (by rw [fews_zero]; intro i x y h; cases h) (fun n hn ih => ?_) n
  rw [fews_pos hb hn]
  intro i x y h1 h2
  cases i with
  | zero =>
    rw [List.getElem?_cons_zero] at h1
    cases h1
    rw [List.getElem?_cons_succ] at h2
    have h3 := (fews_mir hb _ y (List.mem_of_getElem? h2)).2.2
    have := low_half (n := n) hb
    omega
  | succ i =>
    rw [List.getElem?_cons_succ] at h1 h2
    exact ih i x y h1 h2
end Mi

/-! falling filters, the ways by two -/
namespace Mi
section
variable {p : Nat → Bool}
/-- what holds p above t and below n, falling -/
def fl (p : Nat → Bool) (n t : Nat) : List Nat := ((List.range n).reverse).filter fun m => p m && decide (t < m)
theorem fl_zero {t : Nat} : fl p 0 t = [] := rfl
theorem fl_succ {n t : Nat} : fl p (n + 1) t = (if p n && decide (t < n) then [n] else []) ++ fl p n t := by
  unfold fl
  rw [List.range_succ, List.reverse_append, List.reverse_singleton, List.filter_append]
  congr 1
  by_cases c : (p n && decide (t < n)) = true
  · rw [if_pos c]
    simp only [List.filter_cons, List.filter_nil]
    rw [if_pos c]
  · rw [if_neg c]
    simp only [List.filter_cons, List.filter_nil]
    rw [if_neg c]
theorem fl_mem {n t m : Nat} : m ∈ fl p n t ↔ m < n ∧ p m = true ∧ t < m := by
  unfold fl
  rw [List.mem_filter, List.mem_reverse, List.mem_range, Bool.and_eq_true, decide_eq_true_eq]
theorem fl_none : ∀ {n t : Nat}, n ≤ t + 1 → fl p n t = []
  | 0, _, _ => rfl
  | n + 1, t, h => by
    rw [fl_succ, fl_none (by omega), if_neg (by
      intro z
      rw [Bool.and_eq_true, decide_eq_true_eq] at z
      omega)]
    rfl
theorem fl_step {t' t : Nat} (h : t' < t) (hno : ∀ m, t' < m → m < t → p m = false) : ∀ n, fl p n t' = fl p n t ++ if t < n ∧ p t = true then [t] else []
  | 0 => by rw [fl_zero, fl_zero, if_neg (by omega)]; rfl
  | n + 1 => by
    rw [fl_succ, fl_succ, fl_step h hno n]
    rcases Nat.lt_trichotomy n t with c | c | c
    · have e1 : ¬ ((p n && decide (t' < n)) = true) := by
        intro z
        rw [Bool.and_eq_true, decide_eq_true_eq] at z
        rw [hno n z.2 c] at z
        cases z.1
      have e2 : ¬ ((p n && decide (t < n)) = true) := by
        intro z
        rw [Bool.and_eq_true, decide_eq_true_eq] at z
        omega
      rw [if_neg e1, if_neg e2, if_neg (show ¬ (t < n ∧ p t = true) by omega), if_neg (show ¬ (t < n + 1 ∧ p t = true) by omega)]
      simp
    · subst c
      have e2 : ¬ ((p n && decide (n < n)) = true) := by
        intro z
        rw [Bool.and_eq_true, decide_eq_true_eq] at z
        omega
      rw [if_neg e2, fl_none (show n ≤ n + 1 by omega), if_neg (show ¬ (n < n ∧ p n = true) by omega)]
      by_cases c2 : p n = true
      · rw [if_pos (by rw [c2, Bool.true_and]; exact decide_eq_true h), if_pos ⟨by omega, c2⟩]
        rfl
      · rw [if_neg (by
          intro z
          rw [Bool.and_eq_true] at z
          exact c2 z.1), if_neg (fun z => c2 z.2)]
        rfl
    · have e : (p n && decide (t' < n)) = (p n && decide (t < n)) := by
        rw [decide_eq_true (show t' < n by omega), decide_eq_true c]
      rw [e, List.append_assoc]
      congr 2
      by_cases c2 : p t = true
      · rw [if_pos ⟨c, c2⟩, if_pos ⟨by omega, c2⟩]
      · rw [if_neg (fun z => c2 z.2), if_neg (fun z => c2 z.2)]
theorem fl_pre {t' t : Nat} (h : t' ≤ t) : ∀ n, ∃ r, fl p n t' = fl p n t ++ r
  | 0 => ⟨[], rfl⟩
  | n + 1 => by
    obtain ⟨r, e⟩ := fl_pre h n
    by_cases c : t < n
    · refine ⟨r, ?_⟩
      rw [fl_succ, fl_succ, e, decide_eq_true c, decide_eq_true (show t' < n by omega), List.append_assoc]
    · refine ⟨(if p n && decide (t' < n) then [n] else []) ++ r, ?_⟩
      have e0 : fl p (n + 1) t = [] := fl_none (by omega)
      have e1 : fl p n t = [] := fl_none (by omega)
      rw [fl_succ, e, e0, e1]
      rfl
theorem fl_len : ∀ n t, (fl p n t).length ≤ n
  | 0, _ => Nat.le_refl _
  | n + 1, t => by
    rw [fl_succ, List.length_append]
    have := fl_len n t
    split <;> simp <;> omega
/-- rising from behind -/
theorem fl_fall {n t : Nat} : (fl p n t).Pairwise (fun a b => b < a) := by
  unfold fl
  apply List.Pairwise.filter
  rw [List.pairwise_reverse]
  exact List.pairwise_lt_range
end
section
variable {b : Nat}
def pT (b n m : Nat) : Bool := decide (0 < m) && decide (n ≤ 2 * m) && mir b m && mir b (n - m)
/-- the first parts of the ways by two, falling -/
def twos (b n : Nat) : List Nat := fl (pT b n) n 0
theorem pT_iff {n m : Nat} : pT b n m = true ↔ 0 < m ∧ n ≤ 2 * m ∧ mir b m = true ∧ mir b (n - m) = true := by
  unfold pT
  simp only [Bool.and_eq_true, decide_eq_true_eq, and_assoc]
theorem twos_mem {n m : Nat} : m ∈ twos b n ↔ m < n ∧ 0 < m ∧ n ≤ 2 * m ∧ mir b m = true ∧ mir b (n - m) = true := by
  unfold twos
  rw [fl_mem, pT_iff]
  constructor
  · rintro ⟨h1, h2, _⟩
    exact ⟨h1, h2⟩
  · rintro ⟨h1, h2⟩
    exact ⟨h1, h2, h2.1⟩
/-- the loop's turn -/
theorem twos_turn (hb : 2 ≤ b) {n one : Nat} (h1 : n ≤ 2 * one) (h0 : 0 < one) (hn : one < n) (hm : mir b one = true) : fl (pT b n) n (lowM b (one - 1)) = fl (pT b n) n one ++ if mir b (n - one) = true then [one] else [] := by
  have hl := low_le (n := one - 1) hb
  rw [fl_step (t := one) (by omega) (fun m h2 h3 => ?_) n]
  · congr 1
    by_cases c : mir b (n - one) = true
    · rw [if_pos ⟨hn, pT_iff.mpr ⟨h0, h1, hm, c⟩⟩, if_pos c]
    · rw [if_neg (fun z => c (pT_iff.mp z.2).2.2.2), if_neg c]
  · cases e : pT b n m with
    | false => rfl
    | true =>
      have := low_max hb (pT_iff.mp e).2.2.1 (show m ≤ one - 1 by omega)
      omega
/-- where the loop ends by itself -/
theorem twos_end {n one : Nat} (h : 2 * one < n ∨ one = 0) : fl (pT b n) n one = twos b n := by
  unfold twos
  unfold fl
  apply List.filter_congr
  intro m _
  cases e : pT b n m with
  | false => rfl
  | true =>
    have := pT_iff.mp e
    rw [Bool.true_and, Bool.true_and]
    exact decide_eq_decide.mpr ⟨fun _ => this.1, fun _ => by omega⟩
/-- where it starts -/
theorem twos_start (hb : 2 ≤ b) {n : Nat} : fl (pT b n) n (lowM b (n - 1)) = [] := by
  apply List.eq_nil_iff_forall_not_mem.mpr
  intro m hm
  obtain ⟨h1, h2, h3⟩ := fl_mem.mp hm
  have := low_max hb (pT_iff.mp h2).2.2.1 (show m ≤ n - 1 by omega)
  omega
theorem twos_len {n : Nat} : (twos b n).length ≤ n := fl_len n 0
end
end Mi

/-! all mirrored ones below a number, rising -/
namespace Mi
variable {b : Nat}
/-- the mirrored numbers from 1 on below n -/
def mirs (b n : Nat) : List Nat := (List.range n).filter fun m => decide (0 < m) && mir b m
theorem mirs_mem {n m : Nat} : m ∈ mirs b n ↔ m < n ∧ 0 < m ∧ mir b m = true := by
  unfold mirs
  rw [List.mem_filter, List.mem_range, Bool.and_eq_true, decide_eq_true_eq]
theorem mirs_succ {n : Nat} : mirs b (n + 1) = mirs b n ++ if 0 < n ∧ mir b n = true then [n] else [] := by
  unfold mirs
  rw [List.range_succ, List.filter_append]
  congr 1
  by_cases c : 0 < n ∧ mir b n = true
  · rw [if_pos c]
    simp [c.1, c.2]
  · rw [if_neg c]
    by_cases c2 : 0 < n
    · have c3 : mir b n = false := by
        cases e : mir b n with
        | true => exact absurd ⟨c2, e⟩ c
        | false => rfl
      simp [c3]
    · simp [c2]
theorem mirs_same {lo : Nat} : ∀ {hi : Nat}, lo ≤ hi → (∀ m, lo ≤ m → m < hi → 0 < m → mir b m = false) → mirs b hi = mirs b lo
  | 0, h, _ => by rw [Nat.le_zero.mp h]
  | hi + 1, h, hno => by
    by_cases c : lo = hi + 1
    · rw [c]
    · rw [mirs_succ, mirs_same (show lo ≤ hi by omega) fun m h1 h2 h3 => hno m h1 (by omega) h3, if_neg, List.append_nil]
      rintro ⟨z1, z2⟩
      rw [hno hi (by omega) (by omega) z1] at z2
      cases z2
theorem mirs_one : mirs b 1 = [] := rfl
theorem mirs_rise {n : Nat} : (mirs b n).Pairwise (· < ·) := List.Pairwise.filter _ List.pairwise_lt_range
theorem mirs_len {n : Nat} : (mirs b n).length ≤ n := by
  have := List.length_filter_le (fun m => decide (0 < m) && mir b m) (List.range n)
  rw [List.length_range] at this
  exact this
/-- by halves of one size -/
theorem pal_bounds (hb : 2 ≤ b) {s h : Nat} (hs : 1 ≤ s) (h1 : b ^ ((s - 1) / 2) ≤ h) (h2 : h < b ^ ((s + 1) / 2)) : mir b (pal b s h) = true ∧ b ^ (s - 1) ≤ pal b s h ∧ pal b s h < b ^ s ∧ 0 < pal b s h := by
  have hf := Hf.of hb hs h1 h2
  have hl := ln_pal hb hf
  have hh : 0 < h := Nat.lt_of_lt_of_le (Nat.pow_pos (by omega)) h1
  have hp : 0 < pal b s h := by
    obtain ⟨r, _, e⟩ := pal_split hb hf.le2
    rw [e]
    have : 0 < h * b ^ (s / 2) := Nat.mul_pos hh (Nat.pow_pos (by omega))
    omega
  refine ⟨mir_pal hb hf, ?_, ?_, hp⟩
  · have := ln_low (n := pal b s h) hb hp
    rw [hl] at this
    exact this
  · have := ln_high (n := pal b s h) hb
    rw [hl] at this
    exact this
theorem mir_size (hb : 2 ≤ b) {s m : Nat} (hs : 1 ≤ s) (h1 : b ^ (s - 1) ≤ m) (h2 : m < b ^ s) (hm : mir b m = true) (h0 : 0 < m) : m = pal b s (half b m) ∧ b ^ ((s - 1) / 2) ≤ half b m ∧ half b m < b ^ ((s + 1) / 2) := by
  have hl : ln b m = s := ln_of hb hs (.inr h1) h2
  have hf := hf_half (n := m) hb
  rw [hl] at hf
  have hh : 0 < half b m := by
    rcases hf.2.2 with z | z
    · exact z
    · have e := mir_eq hb hm
      apply Nat.pos_of_ne_zero
      intro z2
      have : half b m = m / b ^ (ln b m / 2) := rfl
      rw [hl, z] at this
      simp at this
      omega
  refine ⟨?_, hf_low hb hf hh, hf_high hb hf⟩
  have := mir_eq hb hm
  rw [hl] at this
  exact this
/-- the first of a size -/
theorem mirs_first (hb : 2 ≤ b) {s : Nat} (hs : 1 ≤ s) : mirs b (pal b s (b ^ ((s - 1) / 2))) = mirs b (b ^ (s - 1)) := by
  have hlt : b ^ ((s - 1) / 2) < b ^ ((s + 1) / 2) := Nat.pow_lt_pow_right (by omega) (by omega)
  have hp := pal_bounds hb hs (Nat.le_refl _) hlt
  refine mirs_same hp.2.1 fun m h1 h2 h0 => ?_
  cases e : mir b m with
  | false => rfl
  | true =>
    exfalso
    obtain ⟨e1, e2, e3⟩ := mir_size hb hs h1 (by omega) e h0
    have hf1 := Hf.of hb hs (Nat.le_refl _) hlt
    have hf2 := Hf.of hb hs e2 e3
    rcases Nat.lt_or_ge (b ^ ((s - 1) / 2)) (half b m) with c | c
    · have := pal_mono hb hf1.le2 hf2.le2 c
      omega
    · have : half b m = b ^ ((s - 1) / 2) := by omega
      rw [this] at e1
      omega
/-- the next half -/
theorem mirs_half (hb : 2 ≤ b) {s h : Nat} (hs : 1 ≤ s) (h1 : b ^ ((s - 1) / 2) ≤ h) (h2 : h < b ^ ((s + 1) / 2)) :
    mirs b (if h + 1 < b ^ ((s + 1) / 2) then pal b s (h + 1) else b ^ s) = mirs b (pal b s h) ++ [pal b s h] := by
  have hp := pal_bounds hb hs h1 h2
  have hf := Hf.of hb hs h1 h2
  have e0 : mirs b (pal b s h + 1) = mirs b (pal b s h) ++ [pal b s h] := by rw [mirs_succ, if_pos ⟨hp.2.2.2, hp.1⟩]
  rw [← e0]
  have no : ∀ m, pal b s h + 1 ≤ m → m < b ^ s → mir b m = true → h < half b m ∧ half b m < b ^ ((s + 1) / 2) ∧ m = pal b s (half b m) := by
    intro m g1 g2 em
    obtain ⟨e1, e2, e3⟩ := mir_size hb hs (by omega) g2 em (by omega)
    refine ⟨?_, e3, e1⟩
    have hf2 := Hf.of hb hs e2 e3
    rcases Nat.lt_or_ge h (half b m) with c | c
    · exact c
    · exfalso
      rcases Nat.lt_or_ge (half b m) h with c2 | c2
      · have := pal_mono hb hf2.le2 hf.le2 c2
        omega
      · have : half b m = h := by omega
        rw [this] at e1
        omega
  by_cases c : h + 1 < b ^ ((s + 1) / 2)
  · rw [if_pos c]
    have hp2 := pal_bounds hb hs (show b ^ ((s - 1) / 2) ≤ h + 1 by omega) c
    have hf2 := Hf.of hb hs (show b ^ ((s - 1) / 2) ≤ h + 1 by omega) c
    refine mirs_same (pal_mono hb hf.le2 hf2.le2 (by omega)) fun m g1 g2 _ => ?_
    cases em : mir b m with
    | false => rfl
    | true =>
      exfalso
      obtain ⟨k1, k2, k3⟩ := no m g1 (by omega) em
      have hf3 := Hf.of hb hs (show b ^ ((s - 1) / 2) ≤ half b m by omega) k2
      rcases Nat.lt_or_ge (h + 1) (half b m) with c2 | c2
      · have := pal_mono hb hf2.le2 hf3.le2 c2
        omega
      · have : half b m = h + 1 := by omega
        rw [this] at k3
        omega
  · rw [if_neg c]
    refine mirs_same (by omega) fun m g1 g2 _ => ?_
    cases em : mir b m with
    | false => rfl
    | true =>
      exfalso
      obtain ⟨k1, k2, k3⟩ := no m g1 g2 em
      omega
/-- those at most n of those below a greater bound -/
theorem mirs_cut {n N : Nat} (h : n < N) : (mirs b N).filter (fun m => decide (m ≤ n)) = mirs b (n + 1) := by
  have e : ∀ k, (mirs b (n + 1 + k)).filter (fun m => decide (m ≤ n)) = mirs b (n + 1) := by
    intro k
    induction k with
    | zero =>
      rw [Nat.add_zero]
      refine List.filter_eq_self.mpr fun m hm => decide_eq_true ?_
      have := (mirs_mem.mp hm).1
      omega
    | succ k ih =>
      rw [← Nat.add_assoc, mirs_succ, List.filter_append, ih]
      have : (if 0 < n + 1 + k ∧ mir b (n + 1 + k) = true then [n + 1 + k] else []).filter (fun m => decide (m ≤ n)) = [] := by
        refine List.filter_eq_nil_iff.mpr fun m hm => ?_
        have : m = n + 1 + k := by
          by_cases c : 0 < n + 1 + k ∧ mir b (n + 1 + k) = true
          · rw [if_pos c] at hm
            exact List.mem_singleton.mp hm
          · rw [if_neg c] at hm
            cases hm
        rw [decide_eq_true_eq]
        omega
      rw [this, List.append_nil]
  have := e (N - (n + 1))
  rw [show n + 1 + (N - (n + 1)) = N by omega] at this
  exact this
/-- the ways by two, of all mirrored ones falling -/
theorem twos_mirs {n : Nat} : (mirs b (n + 1)).reverse.filter (fun m => decide (n ≤ 2 * m) && decide (n - m ∈ mirs b (n + 1))) = twos b n := by
  unfold twos fl mirs
  rw [← List.filter_reverse, List.filter_filter, List.range_succ, List.reverse_append, List.reverse_singleton, List.filter_append]
  rw [show ([n].filter fun a => (decide (n ≤ 2 * a) && decide (n - a ∈ (List.range n ++ [n]).filter fun m => decide (0 < m) && mir b m)) && (decide (0 < a) && mir b a)) = [] from by
    refine List.filter_eq_nil_iff.mpr fun m hm => ?_
    rw [List.mem_singleton.mp hm, Nat.sub_self]
    intro z
    rw [Bool.and_eq_true, Bool.and_eq_true, decide_eq_true_eq, decide_eq_true_eq] at z
    have := (List.mem_filter.mp z.1.2).2
    rw [Bool.and_eq_true, decide_eq_true_eq] at this
    omega]
  rw [List.nil_append]
  apply List.filter_congr
  intro m hm
  have hmn : m < n := List.mem_range.mp (List.mem_reverse.mp hm)
  apply Bool.eq_iff_iff.mpr
  rw [Bool.and_eq_true, Bool.and_eq_true, Bool.and_eq_true, Bool.and_eq_true, pT_iff, decide_eq_true_eq, decide_eq_true_eq, decide_eq_true_eq]
  rw [List.mem_filter, ← List.range_succ, List.mem_range, Bool.and_eq_true, decide_eq_true_eq]
  constructor
  · rintro ⟨⟨h1, _, h2, h3⟩, h4, h5⟩
    exact ⟨⟨h4, h1, h5, h3⟩, h4⟩
  · rintro ⟨⟨h1, h2, h3, h4⟩, _⟩
    exact ⟨⟨h2, by omega, by omega, h4⟩, h1, h3⟩
theorem mirs_mid {lo mid hi : Nat} (h1 : lo ≤ mid) (h2 : mid ≤ hi) (e : mirs b hi = mirs b lo) : mirs b mid = mirs b lo := by
  refine mirs_same h1 fun m g1 g2 g3 => ?_
  cases em : mir b m with
  | false => rfl
  | true =>
    have : m ∈ mirs b hi := mirs_mem.mpr ⟨by omega, g3, em⟩
    rw [e] at this
    have := (mirs_mem.mp this).1
    omega
/-- what is put behind a half -/
def D0 (b r : Nat) : List Nat := if r = 0 then [] else digs b r
theorem D0_step (hb : 2 ≤ b) {r x : Nat} (h : 0 < r) : (D0 b r).foldl (fun a d => a * b + d) x = (D0 b (r / b)).foldl (fun a d => a * b + d) (x * b + r % b) := by
  unfold D0
  rw [if_neg (by omega)]
  by_cases c : b ≤ r
  · have : 0 < r / b := Nat.div_pos c (by omega)
    rw [if_neg (by omega), digs_ge hb c]
    rfl
  · rw [digs_lt (by omega), Nat.div_eq_of_lt (by omega), if_pos rfl, Nat.mod_eq_of_lt (by omega)]
    rfl
theorem pal_fold (hb : 2 ≤ b) {s h : Nat} (hf : Hf b s h) (h0 : 0 < h) : (D0 b (if s % 2 = 0 then h else h / b)).foldl (fun a d => a * b + d) h = pal b s h := by
  have e : pal b s h = (((figs b h).take (s / 2)).reverse).foldl (fun a d => a * b + d) h := by
    show (figs b h ++ ((figs b h).take (s / 2)).reverse).foldl (fun a d => a * b + d) 0 = _
    rw [List.foldl_append]
    congr 1
    exact val_figs hb h
  rw [e]
  congr 1
  have hl : (figs b h).length = (s + 1) / 2 := hf.2.1
  by_cases c : s % 2 = 0
  · rw [if_pos c, List.take_of_length_le (by omega)]
    unfold D0 figs
    rw [if_neg (by omega), List.reverse_reverse]
  · rw [if_neg c]
    by_cases c2 : b ≤ h
    · have ef : figs b h = figs b (h / b) ++ [h % b] := by
        unfold figs
        rw [digs_ge hb c2, List.reverse_cons]
      have : 0 < h / b := Nat.div_pos c2 (by omega)
      rw [ef] at hl ⊢
      rw [List.length_append, List.length_singleton] at hl
      rw [List.take_left' (by omega)]
      unfold D0 figs
      rw [if_neg (by omega), List.reverse_reverse]
    · have ef : figs b h = [h] := by
        unfold figs
        rw [digs_lt (by omega)]
        rfl
      rw [ef] at hl ⊢
      rw [List.length_singleton] at hl
      rw [show s / 2 = 0 by omega, Nat.div_eq_of_lt (by omega)]
      rfl
end Mi

/-! places -/
namespace Mi
variable {b : Nat}
theorem cnt_pred (hb : 2 ≤ b) {n : Nat} (hn : 0 < n) (h : mir b n = true) : cnt b n = cnt b (n - 1) + 1 := by
  obtain ⟨m, rfl⟩ : ∃ m, n = m + 1 := ⟨n - 1, by omega⟩
  show cnt b m + _ = cnt b m + 1
  rw [if_pos h]
theorem cnt_next (hb : 2 ≤ b) {m : Nat} : cnt b (highM b (m + 1)) = cnt b m + 1 := by
  have h1 := high_ge (n := m + 1) hb
  rw [cnt_pred hb (by omega) (high_mir hb)]
  congr 1
  apply Nat.le_antisymm
  · rw [← cnt_low (n := highM b (m + 1) - 1) hb]
    apply cnt_mono
    apply Nat.le_of_not_lt
    intro z
    have h2 : highM b (m + 1) ≤ lowM b (highM b (m + 1) - 1) := high_min hb (low_mir (n := highM b (m + 1) - 1) hb) z
    have h3 := low_le (n := highM b (m + 1) - 1) hb
    omega
  · exact cnt_mono (by omega)
theorem cnt_high (hb : 2 ≤ b) {n : Nat} : cnt b (highM b n) = cnt b n + if lowM b n < n then 1 else 0 := by
  have h1 := low_le (n := n) hb
  by_cases c : lowM b n < n
  · rw [if_pos c, high_next hb, cnt_next hb, cnt_low hb]
    apply Nat.lt_of_le_of_ne (high_ge hb)
    intro e
    have := high_mir (n := n) hb
    rw [← e] at this
    have := low_self hb this
    omega
  · rw [if_neg c]
    have e : lowM b n = n := by omega
    have hm : mir b n = true := by
      rw [← e]
      exact low_mir hb
    rw [high_self hb hm]
    rfl
/-- two mirrored ones by their places -/
theorem at_uniq (hb : 2 ≤ b) {m n : Nat} (hm : mir b m = true) (hn : mir b n = true) (h : cnt b m = cnt b n) : m = n := cnt_inj hm hn h
theorem at_lt (hb : 2 ≤ b) {m n : Nat} (h : cnt b m < cnt b n) : m < n := by
  apply Nat.lt_of_not_le
  intro z
  have := cnt_mono (b := b) z
  omega
theorem below_sum (hb : 2 ≤ b) : ∀ s, 1 ≤ s → below b s + 2 = b ^ (s / 2) + b ^ ((s - 1) / 2) := by
  intro s
  induction s with
  | zero => intro h; omega
  | succ s ih =>
    intro _
    by_cases hs : 1 ≤ s
    case neg =>
      obtain rfl : s = 0 := by omega
      show 0 + 2 = b ^ 0 + b ^ 0
      rfl
    have ih := ih hs
    have h1 := ofSize_add (s := s) hb hs
    rw [below_succ hs]
    rw [show s + 1 - 1 = s by omega]
    omega
theorem half_top1 (hb : 2 ≤ b) {s : Nat} (hs : 1 ≤ s) : half b (b ^ s - 1) = b ^ ((s + 1) / 2) - 1 := by
  unfold half
  rw [(mir_top (b := b) (s := s) hb hs).2]
  have hp : 0 < b ^ (s / 2) := Nat.pow_pos (by omega)
  have hq : 0 < b ^ ((s + 1) / 2) := Nat.pow_pos (by omega)
  have e := pow_parts (b := b) s
  rw [← e]
  have e2 : b ^ ((s + 1) / 2) * b ^ (s / 2) - 1 = (b ^ (s / 2) - 1) + (b ^ ((s + 1) / 2) - 1) * b ^ (s / 2) := by
    rw [Nat.sub_mul]
    have : b ^ (s / 2) ≤ b ^ ((s + 1) / 2) * b ^ (s / 2) := Nat.le_mul_of_pos_left _ hq
    omega
  rw [e2, Nat.add_mul_div_right _ _ hp, Nat.div_eq_of_lt (by omega), Nat.zero_add]
theorem cnt_top (hb : 2 ≤ b) {s : Nat} (hs : 1 ≤ s) : cnt b (b ^ s - 1) + 2 = b ^ ((s + 1) / 2) + b ^ (s / 2) := by
  have hp : b ^ 1 ≤ b ^ s := Nat.pow_le_pow_right (by omega) hs
  rw [Nat.pow_one] at hp
  have hm := mir_top (b := b) (s := s) hb hs
  rw [← many_cnt hb]
  unfold manyF
  rw [if_neg (by omega), if_pos (Nat.le_of_eq ((mir_iff hb).mp hm.1)), half_top1 hb hs, hm.2]
  have h1 := ofSize_add (s := s) hb hs
  have h2 := below_sum hb s hs
  have h3 : 0 < b ^ ((s - 1) / 2) := Nat.pow_pos (by omega)
  have h4 := ofSize_pos (b := b) (s := s) hb
  omega
end Mi

/-! the ways by two of all numbers to a bound, counted -/
namespace Mi
variable {b : Nat}
theorem mirs_cnt : ∀ n, (mirs b (n + 1)).length = cnt b n ∧ ∀ (i x : Nat), (mirs b (n + 1))[i]? = some x → cnt b x = i + 1
  | 0 => ⟨rfl, fun i x h => by
    rw [mirs_one] at h
    cases h⟩
  | n + 1 => by
    obtain ⟨h1, h2⟩ := mirs_cnt n
    have e : cnt b (n + 1) = cnt b n + if mir b (n + 1) = true then 1 else 0 := rfl
    rw [mirs_succ]
    by_cases c : mir b (n + 1) = true
    · rw [if_pos ⟨Nat.succ_pos n, c⟩]
      rw [if_pos c] at e
      refine ⟨by rw [List.length_append, h1, e]; rfl, fun i x h => ?_⟩
      rcases Nat.lt_or_ge i (mirs b (n + 1)).length with z | z
      · rw [List.getElem?_append_left z] at h
        exact h2 i x h
      · rw [List.getElem?_append_right z] at h
        have hi : i - (mirs b (n + 1)).length = 0 := by
          have := (List.getElem?_eq_some_iff.mp h).1
          simp only [List.length_cons, List.length_nil] at this
          omega
        rw [hi] at h
        have : n + 1 = x := by simpa using h
        subst this
        omega
    · rw [if_neg (fun z => c z.2), List.append_nil]
      rw [if_neg c] at e
      exact ⟨by omega, h2⟩
/-- the pairs with no greater sum -/
def prs (b N : Nat) : Nat := ((mirs b (N + 1)).map fun m => cnt b (min m (N - m))).sum
/-- the ways by two of all numbers below n -/
def alls (b : Nat) : Nat → Nat
  | 0 => 0
  | n + 1 => alls b n + (twos b n).length
theorem twos_count_mirs {n : Nat} : (twos b (n + 1)).length = ((mirs b (n + 1)).map fun m => if n + 1 ≤ 2 * m ∧ mir b (n + 1 - m) = true then 1 else 0).sum := by
  have h1 : ∀ l : List Nat, (l.map fun m => if n + 1 ≤ 2 * m ∧ mir b (n + 1 - m) = true then 1 else 0).sum = (l.filter fun m => decide (n + 1 ≤ 2 * m) && mir b (n + 1 - m)).length := by
    intro l
    induction l with
    | nil => rfl
    | cons m l ih =>
      rw [List.map_cons, List.sum_cons, ih]
      by_cases c : n + 1 ≤ 2 * m ∧ mir b (n + 1 - m) = true
      · rw [if_pos c, List.filter_cons_of_pos (by rw [Bool.and_eq_true, decide_eq_true_eq]; exact c), List.length_cons]
        omega
      · rw [if_neg c, List.filter_cons_of_neg (by rw [Bool.and_eq_true, decide_eq_true_eq]; exact c)]
        omega
  rw [h1]
  unfold twos fl mirs
  rw [List.filter_reverse, List.length_reverse, List.filter_filter]
  congr 1
  apply List.filter_congr
  intro m hm
  apply Bool.eq_iff_iff.mpr
  rw [Bool.and_eq_true, Bool.and_eq_true, Bool.and_eq_true, Bool.and_eq_true, pT_iff, decide_eq_true_eq, decide_eq_true_eq]
  constructor
  · rintro ⟨⟨h1, h2, h3, h4⟩, _⟩
    exact ⟨⟨h2, h4⟩, h1, h3⟩
  · rintro ⟨⟨h2, h4⟩, h1, h3⟩
    exact ⟨⟨h1, h2, h3, h4⟩, h1⟩
theorem sum_add (l : List Nat) (f g : Nat → Nat) : (l.map fun m => f m + g m).sum = (l.map f).sum + (l.map g).sum := by
  induction l with
  | nil => rfl
  | cons m l ih =>
    simp only [List.map_cons, List.sum_cons, ih]
    omega
theorem sum_congr (l : List Nat) (f g : Nat → Nat) (h : ∀ m ∈ l, f m = g m) : (l.map f).sum = (l.map g).sum := by
  rw [List.map_congr_left h]
theorem prs_succ (N : Nat) : prs b (N + 1) = prs b N + (twos b (N + 1)).length := by
  unfold prs
  rw [mirs_succ, List.map_append, List.sum_append]
  have e0 : ((if 0 < N + 1 ∧ mir b (N + 1) = true then [N + 1] else []).map fun m => cnt b (min m (N + 1 - m))).sum = 0 := by
    by_cases c : 0 < N + 1 ∧ mir b (N + 1) = true
    · rw [if_pos c]
      simp
      rfl
    · rw [if_neg c]
      rfl
  rw [e0, Nat.add_zero, twos_count_mirs, ← sum_add]
  apply sum_congr
  intro m hm
  have hm := mirs_mem.mp hm
  by_cases c : N + 1 ≤ 2 * m
  · have e1 : min m (N + 1 - m) = N + 1 - m := by omega
    have e2 : min m (N - m) = N - m := by omega
    rw [e1, e2, show N + 1 - m = (N - m) + 1 by omega]
    show cnt b (N - m) + (if mir b (N - m + 1) = true then 1 else 0) = _
    congr 1
    by_cases c2 : mir b (N - m + 1) = true
    · rw [if_pos c2, if_pos ⟨c, c2⟩]
    · rw [if_neg c2, if_neg (fun z => c2 z.2)]
  · rw [if_neg (fun z => c z.1), show min m (N + 1 - m) = min m (N - m) by omega]
    rfl
theorem alls_prs : ∀ N, alls b (N + 1) = prs b N
  | 0 => by
    show 0 + (twos b 0).length = _
    rw [show (twos b 0) = [] from rfl]
    unfold prs
    rw [mirs_one]
    rfl
  | N + 1 => by
    rw [prs_succ, ← alls_prs N]
    rfl
theorem alls_le : ∀ n, alls b n ≤ n * n
  | 0 => Nat.le_refl _
  | n + 1 => by
    have h1 := alls_le n
    have h2 := twos_len (b := b) (n := n)
    show alls b n + (twos b n).length ≤ (n + 1) * (n + 1)
    rw [Nat.add_mul, Nat.mul_add]
    omega
theorem alls_sum : ∀ n, ((List.range' 0 n).map fun m => (twos b m).length).sum = alls b n
  | 0 => rfl
  | n + 1 => by
    rw [List.range'_concat, List.map_append, List.sum_append, alls_sum n]
    simp [alls]
/-- where the few are two there is a way -/
theorem few_way (hb : 2 ≤ b) {n : Nat} (h : (fews b n).length = 2) : 0 < (twos b n).length := by
  have hn : 0 < n := by
    apply Nat.pos_of_ne_zero
    intro z
    rw [z, fews_zero] at h
    cases h
  have hlo := low_le (n := n) hb
  rw [fews_pos hb hn, List.length_cons] at h
  have hn2 : 0 < n - lowM b n := by
    apply Nat.pos_of_ne_zero
    intro z
    rw [z, fews_zero] at h
    cases h
  have hm2 : mir b (n - lowM b n) = true := (fews_one hb hn2).mp (by omega)
  have mem : lowM b n ∈ twos b n := twos_mem.mpr ⟨by omega, low_pos hb hn, low_half hb, low_mir hb, hm2⟩
  exact List.length_pos_iff.mpr (fun z => by rw [z] at mem; cases mem)
end Mi

/-! ways by so many; the greatest of the fewest -/
namespace Mi
variable {b : Nat}
/-- so many mirrored ones that fall, none above the most -/
structure WayB (b n m most : Nat) (l : List Nat) : Prop where
  len : l.length = m
  sum : l.sum = n
  mem : ∀ d ∈ l, 0 < d ∧ mir b d = true ∧ d ≤ most
  fall : l.Pairwise (· ≥ ·)
/-- lists in order -/
def lle : List Nat → List Nat → Prop
  | [], _ => True
  | _ :: _, [] => False
  | x :: xs, y :: ys => x < y ∨ x = y ∧ lle xs ys
def NoW (b n m most : Nat) : Prop := ∀ l, ¬ WayB b n m most l
def Grt (b n m most : Nat) (l : List Nat) : Prop := WayB b n m most l ∧ ∀ l', WayB b n m most l' → lle l' l
theorem lle_refl : ∀ l, lle l l
  | [] => trivial
  | x :: l => .inr ⟨rfl, lle_refl l⟩
theorem sum_le {p : Nat} : ∀ {l : List Nat}, (∀ d ∈ l, d ≤ p) → l.sum ≤ p * l.length
  | [], _ => Nat.zero_le _
  | x :: l, h => by
    have h1 := h x List.mem_cons_self
    have h2 := sum_le fun d hd => h d (List.mem_cons_of_mem x hd)
    rw [List.sum_cons, List.length_cons, Nat.mul_succ]
    omega
theorem sum_ge : ∀ {l : List Nat}, (∀ d ∈ l, 0 < d) → l.length ≤ l.sum
  | [], _ => Nat.zero_le _
  | x :: l, h => by
    have h1 := h x List.mem_cons_self
    have h2 := sum_ge fun d hd => h d (List.mem_cons_of_mem x hd)
    rw [List.sum_cons, List.length_cons]
    omega
theorem way_one {n most : Nat} {l : List Nat} : WayB b n 1 most l ↔ l = [n] ∧ 0 < n ∧ mir b n = true ∧ n ≤ most := by
  constructor
  · rintro ⟨h1, h2, h3, h4⟩
    obtain ⟨x, rfl⟩ := List.length_eq_one_iff.mp h1
    rw [List.sum_cons, List.sum_nil, Nat.add_zero] at h2
    subst h2
    exact ⟨rfl, h3 x List.mem_cons_self⟩
  · rintro ⟨rfl, h⟩
    exact ⟨rfl, by rw [List.sum_cons, List.sum_nil, Nat.add_zero], fun d hd => by rw [List.mem_singleton.mp hd]; exact h, List.pairwise_singleton ..⟩
theorem way_cons {n m most p : Nat} {r : List Nat} : WayB b n (m + 1) most (p :: r) ↔ 0 < p ∧ mir b p = true ∧ p ≤ most ∧ p ≤ n ∧ WayB b (n - p) m p r := by
  constructor
  · rintro ⟨h1, h2, h3, h4⟩
    obtain ⟨a1, a2, a3⟩ := h3 p List.mem_cons_self
    obtain ⟨f1, f2⟩ := List.pairwise_cons.mp h4
    rw [List.sum_cons] at h2
    exact ⟨a1, a2, a3, by omega, ⟨Nat.succ.inj h1, by omega, fun d hd => ⟨(h3 d (List.mem_cons_of_mem _ hd)).1, (h3 d (List.mem_cons_of_mem _ hd)).2.1, f1 d hd⟩, f2⟩⟩
  · rintro ⟨a1, a2, a3, a4, ⟨h1, h2, h3, h4⟩⟩
    refine ⟨congrArg Nat.succ h1, by rw [List.sum_cons]; omega, fun d hd => ?_, List.pairwise_cons.mpr ⟨fun d hd => (h3 d hd).2.2, h4⟩⟩
    rcases List.mem_cons.mp hd with rfl | hd
    · exact ⟨a1, a2, a3⟩
    · exact ⟨(h3 d hd).1, (h3 d hd).2.1, Nat.le_trans (h3 d hd).2.2 a3⟩
theorem way_top {n m most p : Nat} {r : List Nat} (h : WayB b n m most (p :: r)) : n ≤ p * m := by
  obtain ⟨h1, h2, h3, h4⟩ := h
  rw [← h1, ← h2]
  refine sum_le fun d hd => ?_
  rcases List.mem_cons.mp hd with rfl | hd
  · exact Nat.le_refl _
  · exact (List.pairwise_cons.mp h4).1 d hd
theorem way_room {n m most p : Nat} {r : List Nat} (h : WayB b n m most (p :: r)) : p + m ≤ n + 1 := by
  obtain ⟨h1, h2, h3, h4⟩ := h
  have := sum_ge fun d hd => (h3 d (List.mem_cons_of_mem p hd)).1
  rw [List.sum_cons] at h2
  rw [List.length_cons] at h1
  omega
/-- only first parts that stand in xs are left -/
def Lft (b n m most : Nat) (xs : List Nat) : Prop := ∀ p r, WayB b n m most (p :: r) → p ∈ xs
theorem lft_nil {n m most : Nat} (h : Lft b n (m + 1) most []) : NoW b n (m + 1) most := fun l hl => by
  cases l with
  | nil =>
    have := hl.len
    cases this
  | cons p r => exact nomatch h p r hl
theorem lft_cut {n m most q : Nat} {xs : List Nat} (h : Lft b n (m + 1) most (xs ++ [q])) (hr : (xs ++ [q]).Pairwise (· < ·)) (c : q * (m + 1) < n) : NoW b n (m + 1) most := fun l hl => by
  cases l with
  | nil =>
    have := hl.len
    cases this
  | cons p r =>
    have h1 := way_top hl
    have hp : p ≤ q := by
      rcases List.mem_append.mp (h p r hl) with z | z
      · exact Nat.le_of_lt ((List.pairwise_append.mp hr).2.2 p z q List.mem_cons_self)
      · exact Nat.le_of_eq (List.mem_singleton.mp z)
    have := Nat.mul_le_mul_right (m + 1) hp
    omega
theorem lft_skip {n m most q : Nat} {xs : List Nat} (h : Lft b n m most (xs ++ [q])) (c : ¬ (q ≤ most ∧ q + m ≤ n + 1)) : Lft b n m most xs := fun p r hl => by
  rcases List.mem_append.mp (h p r hl) with z | z
  · exact z
  · have e := List.mem_singleton.mp z
    subst e
    exact absurd ⟨(hl.mem p List.mem_cons_self).2.2, way_room hl⟩ c
theorem lft_none {n m most q : Nat} {xs : List Nat} (h : Lft b n (m + 1) most (xs ++ [q])) (c : NoW b (n - q) m q) : Lft b n (m + 1) most xs := fun p r hl => by
  rcases List.mem_append.mp (h p r hl) with z | z
  · exact z
  · have e := List.mem_singleton.mp z
    subst e
    exact absurd (way_cons.mp hl).2.2.2.2 (c r)
theorem lft_some {n m most q : Nat} {xs r : List Nat} (h : Lft b n (m + 1) most (xs ++ [q])) (hr : (xs ++ [q]).Pairwise (· < ·)) (h0 : 0 < q) (hm : mir b q = true) (h1 : q ≤ most) (h2 : q ≤ n) (g : Grt b (n - q) m q r) : Grt b n (m + 1) most (q :: r) := by
  refine ⟨way_cons.mpr ⟨h0, hm, h1, h2, g.1⟩, fun l hl => ?_⟩
  cases l with
  | nil => trivial
  | cons p s =>
    rcases List.mem_append.mp (h p s hl) with z | z
    · exact .inl ((List.pairwise_append.mp hr).2.2 p z q List.mem_cons_self)
    · have e := List.mem_singleton.mp z
      subst e
      exact .inr ⟨rfl, g.2 s (way_cons.mp hl).2.2.2.2⟩
theorem grt_one {n most : Nat} (h0 : 0 < n) (hm : mir b n = true) (h : n ≤ most) : Grt b n 1 most [n] := ⟨way_one.mpr ⟨rfl, h0, hm, h⟩, fun l hl => by
  rw [(way_one.mp hl).1]
  exact lle_refl _⟩
theorem now_one {n most : Nat} (h : ¬ (n ≤ most ∧ 0 < n ∧ mir b n = true)) : NoW b n 1 most := fun l hl => by
  obtain ⟨_, h1, h2, h3⟩ := way_one.mp hl
  exact h ⟨h3, h1, h2⟩
theorem now_zero {n most : Nat} (h : 0 < n) : NoW b n 0 most := fun l hl => by
  have e := List.length_eq_zero_iff.mp hl.len
  subst e
  have := hl.sum
  rw [List.sum_nil] at this
  omega
theorem pw_fall : ∀ l : List Nat, (∀ i x y, l[i]? = some x → l[i + 1]? = some y → y ≤ x) → l.Pairwise (· ≥ ·)
  | [], _ => .nil
  | x :: l, h => by
    have h2 := pw_fall l fun i y z hy hz => h (i + 1) y z (by rw [List.getElem?_cons_succ]; exact hy) (by rw [List.getElem?_cons_succ]; exact hz)
    refine List.pairwise_cons.mpr ⟨fun d hd => ?_, h2⟩
    cases l with
    | nil => exact nomatch hd
    | cons y l =>
      have h3 := h 0 x y rfl rfl
      rcases List.mem_cons.mp hd with rfl | hd
      · exact h3
      · exact Nat.le_trans ((List.pairwise_cons.mp h2).1 d hd) h3
theorem way_few (hb : 2 ≤ b) (n : Nat) : WayB b n (fews b n).length n (fews b n) := ⟨rfl, fews_sum hb n, fun d hd => ⟨(fews_mir hb n d hd).2.1, (fews_mir hb n d hd).1, (fews_mir hb n d hd).2.2⟩, pw_fall _ (fews_fall hb n)⟩
/-- the greatest of the fewest -/
def Few (b n : Nat) (l : List Nat) : Prop := Grt b n l.length n l ∧ ∀ m, m < l.length → NoW b n m n
theorem few_len (hb : 2 ≤ b) {n : Nat} {l : List Nat} (h : Few b n l) : l.length ≤ (fews b n).length := by
  apply Nat.le_of_not_lt
  intro z
  exact h.2 _ z _ (way_few hb n)
theorem few_uniq {n : Nat} {l l' : List Nat} (h : Few b n l) (h' : Few b n l') : l = l' := by
  have e : l.length = l'.length := by
    rcases Nat.lt_trichotomy l.length l'.length with z | z | z
    · exact absurd h.1.1 (h'.2 _ z l)
    · exact z
    · exact absurd h'.1.1 (h.2 _ z l')
  have a1 : ∀ l l' : List Nat, lle l l' → lle l' l → l = l' := by
    intro l
    induction l with
    | nil =>
      intro l' _ h2
      cases l' with
      | nil => rfl
      | cons x l' => exact h2.elim
    | cons x l ih =>
      intro l' h1 h2
      cases l' with
      | nil => exact h1.elim
      | cons y l' =>
        rcases h1 with h1 | ⟨rfl, h1⟩
        · rcases h2 with h2 | ⟨h2, _⟩ <;> omega
        · rcases h2 with h2 | ⟨_, h2⟩
          · omega
          · rw [ih l' h1 h2]
  refine a1 l l' (h'.1.2 l ?_) (h.1.2 l' ?_)
  · rw [← e]
    exact h.1.1
  · rw [e]
    exact h'.1.1
end Mi

/-! texts of noughts -/
namespace Mi
open PySem PySem.Spec PyProof.Rows L2
def rMulS : R2 := fun x y H Q => ∃ a n, x = .str a ∧ y = .int n ∧ MulOk a n ∧ Q (.str (Txt.mul a n)) H
theorem op_mulS {X : Cx} : OpR X (binaryOp .Mult) rMulS := by
  intro pins s σ H x y v u Q I rx ry h
  obtain ⟨a, n, rfl, rfl, hk, q⟩ := h
  obtain ⟨t, rfl⟩ := (show ∃ t, v = Value.str a t from rx)
  obtain ⟨t2, rfl⟩ := (show ∃ t, u = Value.int n t from ry)
  exact PySem.SB.mul hk fun t' k => ⟨.str _, H, I.tok k, ⟨_, rfl⟩, q⟩
theorem b_mulS {x y : V} {H : Hp} {Q : VK} : rMulS x y H Q = ∃ a n, x = .str a ∧ y = .int n ∧ MulOk a n ∧ Q (.str (Txt.mul a n)) H := rfl
theorem b_addS {x y : V} {H : Hp} {Q : VK} : rAddS x y H Q = ∃ i j, x = .str i ∧ y = .str j ∧ i.length + j.length ≤ sizeLine ∧ Q (.str (i ++ j)) H := rfl
theorem b_intS {xs : List V} {H : Hp} {Q : VK} : rIntS xs H Q = ∃ a n, xs = [.str a] ∧ PySem.intText? a = some n ∧ a.length ≤ 640 ∧ Q (.int n) H := rfl
theorem b_lstRg {te : L2.St → Hp → (Int → Int → Hp → Prop) → Prop} {σ : L2.St} {H : Hp} {Q : VK} : tLstRg te σ H Q = te σ H fun a b H1 => RgOk a b ∧ ∀ q, H1 q = none → Q (.ref q) (upd H1 q (.lst (rgV a b))) := rfl
theorem b_rg1 {ta : TE} {σ : L2.St} {H : Hp} {R : Int → Int → Hp → Prop} : tRg1 ta σ H R = ta σ H fun x H1 => ∃ n, x = .int n ∧ R 0 n H1 := rfl
theorem b_rg2 {ta tb : TE} {σ : L2.St} {H : Hp} {R : Int → Int → Hp → Prop} : tRg2 ta tb σ H R = ta σ H fun x H1 => tb σ H1 fun y H2 => ∃ i j, x = .int i ∧ y = .int j ∧ R i j H2 := rfl
/-- a one and noughts -/
theorem ten_ok : ∀ g < 40, MulOk (Str.ofString "0") ((1 + g : Nat) : Int) ∧ (Txt.mul (Str.ofString "0") ((1 + g : Nat) : Int)).length = 1 + g ∧
    PySem.intText? (Str.ofString "1" ++ Txt.mul (Str.ofString "0") ((1 + g : Nat) : Int)) = some ((10 ^ (1 + g) : Nat) : Int) ∧ (Str.ofString "1" ++ Txt.mul (Str.ofString "0") ((1 + g : Nat) : Int)).length ≤ 640 := by
  unfold MulOk
  decide +kernel
end Mi

/-! a list in a list of lists -/
namespace Mi
open PySem PySem.Spec PyProof.Rows L2
theorem hu65 {k : Nat} {A : Around} (hr : Rm k A) : A.units + 65 < cLine := by
  have := hr.rm.un
  have e : cLine = cLine := rfl
  omega
theorem b_inD {K : PySem.W.Frag} {x y : V} {H : Hp} {Q : VK} : rInD K x y H Q = ∃ d ds, Dp K H x d ∧ Dp K H y (.list ds) ∧ SeqAt.shaped d = true ∧ SeqAt.shaped (.list ds) = true ∧ Q (.bl (ds.any fun z => PyData.eqv z d)) H := rfl
end Mi

/-! how often a thing stands in a list, things of any depth -/
namespace Mi
open PySem PySem.Spec PyProof.Rows L2
def rCountD (K : PySem.W.Frag) : V → List V → Hp → VK → Prop := fun x xs H Q => ∃ (a : Addr) (y : V) (d : PyData) (ds : List PyData), x = V.ref a ∧ xs = [y] ∧ Dp K H (V.ref a) (.list ds) ∧ Dp K H y d ∧
  SeqAt.shaped (.list ds) = true ∧ SeqAt.shaped d = true ∧ Q (.int ((ds.countP fun z => PyData.eqv z d) : Nat)) H
theorem mt_countD {X : Cx} (hu : X.A.units + 65 < cLine) : MtR X "list.count" (rCountD X.K) := by
  intro pins s σ H x xs v us Q I rx rxs h
  obtain ⟨a, y, d, ds, rfl, rfl, hl, hy, sl, sd, q⟩ := h
  cases rx
  cases rxs with
  | cons ry rt =>
    rename_i uy ut
    cases rt
    obtain ⟨bs, r1⟩ := Dp.reads I d y uy hy ry
    have hxs : PyData.canLayAll0 ds = true := SeqAt.canLay_of_shaped sl
    have hroom : X.A.units + 1 + min (PyData.depthAll ds) d.depth < cLine := room_in_shaped sd hu
    cases hl with
    | lst hs ha =>
      obtain ⟨its, rv, ⟨⟨cls, dd, data, sls⟩, n, ho, hc, hdn, hdt⟩, hlen⟩ := I.list hs
      simp only at hc hdt
      subst hc hdt
      obtain ⟨as, h4⟩ := Dp.readsAll I ds _ its ha rv
      have hmap : its.map (SeqAt.readOf s.heap) = ds := SeqAt.readsAll_map ds its as hxs h4
      refine call_meets PySem.F.slot_list_count ⟨_, ho, rfl⟩ PySem.F.entry_list_count (PySem.F.args_list_count_2 _ _)
        (SeqAt.list_countAt a its.toArray n dd sls uy (fun u => PyData.eqv (SeqAt.readOf s.heap u) d)) ⟨ho, SeqAt.items_eqAt (vs := its.toArray) (show ReadsAll s.heap its.toArray.toList ds as from h4) r1 hxs (SeqAt.canLay_of_shaped sd) hroom, ?_⟩
      refine ⟨.int ((ds.countP fun z => PyData.eqv z d) : Nat), H, I.tok _, ⟨s.toks, ?_⟩, q⟩
      show Value.int ((its.toArray.toList.countP (fun u => PyData.eqv (SeqAt.readOf s.heap u) d) : Nat) : Int) s.toks = Value.int ((ds.countP fun z => PyData.eqv z d : Nat) : Int) s.toks
      have e : its.toArray.toList.countP (fun u => PyData.eqv (SeqAt.readOf s.heap u) d) = ds.countP fun z => PyData.eqv z d := by
        rw [← hmap, List.countP_map]
        rfl
      rw [e]
theorem b_countD {K : PySem.W.Frag} {x : V} {xs : List V} {H : Hp} {Q : VK} : rCountD K x xs H Q = ∃ (a : Addr) (y : V) (d : PyData) (ds : List PyData), x = V.ref a ∧ xs = [y] ∧ Dp K H (V.ref a) (.list ds) ∧ Dp K H y d ∧
  SeqAt.shaped (.list ds) = true ∧ SeqAt.shaped d = true ∧ Q (.int ((ds.countP fun z => PyData.eqv z d) : Nat)) H := rfl
end Mi

/-! xs[:c] = ys -/
namespace Mi
open PySem PySem.Spec PyProof.Rows L2
section
variable {P : Program} {w : World} {A : Around} {E : Value → Shared → Prop} {s : Shared}
theorem bounds_to {c n : Nat} (hc : c ≤ n) : sliceBounds none (some (c : Int)) none n = (0, (c : Int), 1) := by
  unfold sliceBounds
  simp only [Option.getD_none]
  rw [if_neg (show ¬ (c : Int) < 0 by omega)]
  simp
  omega
theorem store_to {l b sl : Addr} {xs ys : Array Value} {n m : Nat} {vu : Value} {c : Nat} {Q : Unit → Shared → Prop} (el : s.heap.get? l = some { cls := .type "list", data := .seq xs n }) (eb : s.heap.get? b = some { cls := .type "list", data := .seq ys m }) (ne : l ≠ b) (hs : s.heap.IsSliceOf sl .none vu .none)
    (pu : IsPart vu (some (c : Int))) (hc : c ≤ xs.size) (hz : xs.size + ys.size ≤ sizeLine) (q : Q () { s with heap := s.heap.update l (Obj.mapSeq fun zs => zs.extract 0 0 ++ ys ++ zs.extract c zs.size) }) : wpAny (model P w) A (setItem (.ref l) (.ref sl) (.ref b)) Q E s := by
  have Ll : s.heap.IsList l xs := PySem.IsL.isList el
  have Lb : s.heap.IsList b ys := PySem.IsL.isList eb
  obtain ⟨o, ho, hoc, hod⟩ := id hs
  have Ts : s.TypeIs (.ref sl) "slice" := ⟨o, ho, hoc⟩
  have nosame : Builtin.List.listSameRef (.ref l) (.ref b) = false := beq_eq_false_iff_ne.mpr ne
  have long : ((fun zs : Array Value => zs.extract 0 0 ++ ys ++ zs.extract c zs.size) xs).size ≤ sizeLine + 1 := by
    simp only [Array.size_append, Array.size_extract]; omega
  unfold setItem
  with_reducible refine wpAny_holding ?_
  refine wpAny_bind (wpAny_sequenceKey Ll.typeIs (by decide) ?_)
  refine (wpAny_bind (wpAny_callSpecial?_slot (name := Str.ofString "__setitem__") Ll.typeIs slot_list_setitem (wpAny_call_entry slot_list_setitem Ll.typeIs entry_list_setitem ?_ (args_list_setitem _ _ _))))
  show wpAny _ _ (Builtin.List.listSubscript? (.ref sl) >>= _) _ _ s
  refine wpAny_bind ?_
  unfold Builtin.List.listSubscript?
  refine wpAny_bind (wpAny_specialOf Ts slice_no_index ?_)
  simp only [Option.isNone_none, if_true]
  refine wpAny_pure ?_
  show wpAny _ _ (typeOf (.ref sl) >>= _) _ _ s
  refine wpAny_bind (wpAny_typeOf Ts ?_)
  first | rw [if_neg (by decide)] | refine PySem.W.KFB.if_not (by decide) ?_
  rw [listSliceParts_eq]
  refine wpAny_bind (wpAny_bind (wpAny_field ho hod (x := .none) rfl (wpAny_bind (wpAny_listPart .none ?_))))
  rw [if_neg (show ¬ ((rawPart none == rawInt 0) = true) from Bool.false_ne_true)]
  refine wpAny_bind (wpAny_field ho hod (x := .none) rfl (wpAny_bind (wpAny_listPart .none (wpAny_bind (wpAny_field ho hod (x := vu) rfl (wpAny_bind (wpAny_listPart pu (wpAny_pure ?_))))))))
  have short : Builtin.List.listTooLong (xs.size + ys.size) = false := notLongL hz
  rw [if_neg (by rw [nosame]; exact Bool.false_ne_true)]
  refine wpAny_bind (m := Builtin.List.listAllItems (.ref b) _) ?_
  unfold Builtin.List.listAllItems
  refine wpAny_bind (wpAny_typeOf Lb.typeIs ?_)
  rw [if_pos (by decide)]
  unfold Builtin.List.listItems
  refine wpAny_bind (wpAny_seqItems eb rfl (wpAny_pure ?_))
  refine wpAny_bind (wpAny_bind (wpAny_seqItems el rfl (wpAny_pure ?_)))
  have run : sliceIndices (rawPart Option.none) (rawPart (some (c : Int))) (rawPart Option.none) xs.size = (pure (0, (c : Int), 1) : Sem (Int × Int × Int)) := by
    rw [sliceIndices_raw _ _ _ _ (by simp), bounds_to hc]
  refine wpAny_bind (wpAny_of_eq run ?_)
  show wpAny _ _ (if ((1 : Int) == 1) = true then _ else _) _ _ s
  rw [if_pos (by decide)]
  refine wpAny_bind (wpAny_rule ?_)
  rw [if_neg (by rw [short]; exact Bool.false_ne_true)]
  show wpAny _ _ (updateSeq l (fun zs => zs.extract 0 (0 : Int).toNat ++ ys ++ zs.extract (max (0 : Int) (c : Int)).toNat zs.size) >>= _) _ _ s
  have top : (max (0 : Int) (c : Int)).toNat = c := by omega
  rw [top]
  refine wpAny_bind (wpAny_updateSeq (hz := Nat.le_trans (Nat.le_add_right _ _) hz) (_hz' := long) el rfl ?_)
  refine wpAny_bind (wpAny_letGo ?_)
  exact wpAny_pure ⟨.none, rfl, wpAny_pure q⟩
end
section
variable {X : Cx}
/-- xs[:c] = ys -/
theorem lay_to {pins : List (Addr × Obj)} {s : Shared} {σ : L2.St} {H : Hp} {l b sl : Addr} {xs ys : List V} {c : Nat} {vu : Value} {Q : Unit → Shared → Prop} (I : Inv X pins σ H s) (hl : H l = some (.lst xs)) (hb : H b = some (.lst ys)) (ne : l ≠ b)
    (hs : s.heap.IsSliceOf sl .none vu .none) (pu : IsPart vu (some (c : Int))) (hc : c ≤ xs.length) (hz : xs.length + ys.length ≤ sizeLine) (q : ∀ s', Inv X pins σ (upd H l (.lst (ys ++ xs.drop c))) s' → Q () s') : wpAny (model X.prog X.w) X.A (setItem (.ref l) (.ref sl) (.ref b)) Q X.xe s := by
  obtain ⟨z, us, n, r, k1, el⟩ := I.lstM hl
  obtain ⟨z2, us2, n2, r2, k2, eb⟩ := I.lstM hb
  refine store_to el eb ne hs pu (by rw [List.size_toArray]; omega) (by rw [List.size_toArray, List.size_toArray]; omega) (q _ ?_)
  refine I.lset (its' := us2 ++ us.drop c) (t' := s.toks) hl el ?_ (Vals.append r2 (r.drop _)) ?_
  · have := splice_eq us us2 0 c
    rw [List.take_zero, List.nil_append] at this
    exact this
  · rw [List.length_append, List.length_drop]
    omega
/-- told[:c] = value, as a statement -/
def gTo (K : PySem.W.Frag) (to : TE) (th : TO) : TG := fun v σ H Q => to σ H fun o H1 => th σ H1 fun hi H2 => ∃ (l b : Addr) (xs ys : List V) (c : Nat), o = .ref l ∧ v = .ref b ∧ hi = some (c : Int) ∧ H2 l = some (.lst xs) ∧ H2 b = some (.lst ys) ∧ l ≠ b ∧ c ≤ xs.length ∧ xs.length + ys.length ≤ sizeLine ∧ Q σ (upd H2 l (.lst (ys ++ xs.drop c)))
theorem pg_to {o hi : Expr} {to : TE} {th : TO} {p2 pos : Pos} (ho : PE X o to) (hh : PO X (some hi) th) : PG X (.Subscript o (.Slice Option.none (some hi) Option.none p2) pos) (gTo X.K to th) := by
  refine ⟨fun pins s σ H v u Q I r h => ?_⟩
  show wpAny _ _ (do
      let ov ← holding [u] (eval o X.env)
      let iv ← holding [u, ov] (eval (.Slice Option.none (some hi) Option.none p2) X.env)
      standAt pos
      holding [u, ov, iv] (setItem ov iv u)
      release [iv, u, ov] []) _ _ _
  refine wpAny_bind (wpAny_holding (thn (ho.run pins s σ H _ I h) fun ov s1 ⟨x, H1, I1, r1, q1⟩ => ?_))
  refine wpAny_bind (wpAny_holding ?_)
  refine wpAny_Slice ?_
  rw [evalPart_none]
  refine wpAny_pure (thn (hh.run pins s1 σ H1 _ I1 q1) fun vu s2 ⟨top, H2, I2, pu, q2⟩ => ?_)
  refine wpAny_pure ?_
  obtain ⟨l, b, xs, ys, c, e1, e2, e3, h1, h2, ne, hc, hz, q⟩ := q2
  subst e1
  subst e2
  subst e3
  cases (show ov = Value.ref l from r1)
  cases (show u = Value.ref b from r)
  have I3 : Inv X pins σ H2 { s2 with heap := s2.heap.push { cls := .type "slice", data := .fields #[.none, vu, .none] } } := I2.kept (t' := s2.toks) fun _ _ k => Heap.get?_push_of_some _ k
  refine wpAny_bind (wpAny_standAt (wpAny_bind (wpAny_holding (lay_to I3 h1 h2 ne (Heap.IsSliceOf.new ..) pu hc hz fun s' I4 => wpAny_release ⟨σ, _, I4, q⟩))))
theorem a_to {K : PySem.W.Frag} {to : TE} {th : TO} {v : V} {σ : L2.St} {H : Hp} {Q : L2.St → Hp → Prop} : gTo K to th v σ H Q = to σ H fun o H1 => th σ H1 fun hi H2 => ∃ (l b : Addr) (xs ys : List V) (c : Nat), o = .ref l ∧ v = .ref b ∧ hi = some (c : Int) ∧ H2 l = some (.lst xs) ∧ H2 b = some (.lst ys) ∧ l ≠ b ∧ c ≤ xs.length ∧ xs.length + ys.length ≤ sizeLine ∧ Q σ (upd H2 l (.lst (ys ++ xs.drop c))) := rfl
end
end Mi

/-! repr of lists of numbers -/
namespace Mi
open PySem PySem.Spec PyProof.Rows L2 TL
def dints (l : List Nat) : PyData := .list (l.map fun (d : Nat) => PyData.int (d : Int))
section
variable {K : PySem.W.Frag} {H : Hp} {Q : VK}
theorem dp_all : ∀ l : List Nat, DpAll K H (nints l) (l.map fun (d : Nat) => PyData.int (d : Int))
  | [] => .nil
  | d :: l => .cons (.int d) (dp_all l)
theorem dp_nints {a : Addr} {l : List Nat} (h : SqL K H a (nints l)) : Dp K H (.ref a) (dints l) := .lst h (dp_all l)
theorem ints_show : ∀ l : List Nat, (∀ d ∈ l, d < lim) → PyData.showableAll (l.map fun (d : Nat) => PyData.int (d : Int)) = true ∧ PyData.hasDictAll (l.map fun (d : Nat) => PyData.int (d : Int)) = false ∧ PyData.depthAll (l.map fun (d : Nat) => PyData.int (d : Int)) = 0 ∧
    PyData.leavesShortAll 800 (l.map fun (d : Nat) => PyData.int (d : Int)) = true ∧ PyData.bulkAll (l.map fun (d : Nat) => PyData.int (d : Int)) = l.length
  | [], _ => ⟨rfl, rfl, rfl, rfl, rfl⟩
  | d :: l, h => by
    obtain ⟨h1, h2, h3, h4, h5⟩ := ints_show l fun x hx => h x (List.mem_cons_of_mem _ hx)
    have hd' : d < 10 ^ 200 := h d List.mem_cons_self
    have hd : d.log2 < 700 := by
      have hd : d < lim := h d List.mem_cons_self
      by_cases c : d = 0
      · subst c
        decide
      · exact (Nat.log2_lt c).mpr (Nat.lt_trans hd lim_pow)
    have hs : (PyData.shown (.int d)).length ≤ 800 := by
      unfold PyData.shown
      rw [len_tl, tl_num]
      exact Nat.le_trans (numL_len (k := 200) (by decide) hd') (by decide)
    refine ⟨?_, ?_, ?_, ?_, ?_⟩
    · show (decide (((d : Int)).natAbs.log2 < 1920) && _) = true
      rw [h1, decide_eq_true (show ((d : Int)).natAbs.log2 < 1920 by rw [Int.natAbs_natCast]; omega)]
      rfl
    · show (false || _) = false
      rw [h2]
      rfl
    · show max 0 _ = 0
      rw [h3]
      rfl
    · show (decide _ && _) = true
      rw [h4, decide_eq_true hs]
      rfl
    · show 0 + 1 + _ = l.length + 1
      rw [h5]
      omega
theorem b_repr {xs : List V} : rRepr K xs H Q = ∃ (a : Addr) (d : PyData), xs = [.ref a] ∧ Dp K H (.ref a) d ∧ d.showable = true ∧ d.hasDict = false ∧ d.depth ≤ 64 ∧ d.shown.length ≤ sizeLine ∧ Q (.str d.shown) H := rfl
theorem repr_ints {a : Addr} {l : List Nat} (h : SqL K H a (nints l)) (hb : ∀ d ∈ l, d < lim) (hl : l.length ≤ 10000) (q : Q (.str (dints l).shown) H) : rRepr K [.ref a] H Q := by
  obtain ⟨h1, h2, h3, h4, h5⟩ := ints_show l hb
  refine ⟨a, dints l, rfl, dp_nints h, h1, h2, ?_, ?_, q⟩
  · show PyData.depthAll _ + 1 ≤ 64
    rw [h3]
    decide
  · refine Nat.le_trans (PyData.shown_le_bulk 800 (by decide) (dints l) h4) ?_
    show 802 * PyData.bulkAll _ + 800 ≤ _
    rw [h5, sizeLine_eq]
    omega
end
end Mi

/-! repr of any data; dict of pairs; in a dict -/
namespace Mi
open PySem PySem.Spec PyProof.Rows L2
def rReprV (K : PySem.W.Frag) : List V → Hp → VK → Prop := fun xs H Q => ∃ (x : V) (d : PyData), xs = [x] ∧ Dp K H x d ∧ d.showable = true ∧ d.hasDict = false ∧ d.depth ≤ 64 ∧ d.shown.length ≤ sizeLine ∧ Q (.str d.shown) H
theorem call_reprV {X : Cx} {k : Nat} (hr : Rm k X.A) : CallR X (.builtin "repr") (rReprV X.K) := by
  intro pins s σ H xs us Q I r h
  obtain ⟨x, d, rfl, hd, h1, h2, h3, h4, q⟩ := h
  cases hd with
  | non =>
    obtain ⟨u, rfl, e⟩ := vals1 r
    cases (show u = Value.none from e)
    exact PySem.P.repr_of_none ⟨.str _, H, I.tok _, ⟨_, rfl⟩, q⟩
  | bl b =>
    obtain ⟨u, rfl, e⟩ := vals1 r
    cases (show u = Value.bool b from e)
    refine PySem.P.repr_of_bool ⟨.str (PyData.shown (.bool b)), H, I.tok _, ⟨_, rfl⟩, q⟩
  | int i =>
    obtain ⟨u, rfl, t, rfl⟩ := vals1 r
    exact PySem.P.repr_of_int (of_decide_eq_true h1) ⟨.str _, H, I.tok _, ⟨_, rfl⟩, q⟩
  | str z =>
    obtain ⟨u, rfl, t, rfl⟩ := vals1 r
    exact PySem.P.repr_of_str ⟨.str _, H, I.tok _, ⟨_, rfl⟩, q⟩ h4
  | lst ha hb => exact call_repr hr pins s σ H _ _ Q I r ⟨_, _, rfl, .lst ha hb, h1, h2, h3, h4, q⟩
  | tup ha hb => exact call_repr hr pins s σ H _ _ Q I r ⟨_, _, rfl, .tup ha hb, h1, h2, h3, h4, q⟩
theorem b_reprV {K : PySem.W.Frag} {xs : List V} {H : Hp} {Q : VK} : rReprV K xs H Q = ∃ (x : V) (d : PyData), xs = [x] ∧ Dp K H x d ∧ d.showable = true ∧ d.hasDict = false ∧ d.depth ≤ 64 ∧ d.shown.length ≤ sizeLine ∧ Q (.str d.shown) H := rfl
def rDictP (K : PySem.W.Frag) : List V → Hp → VK → Prop := fun xs H Q => ∃ (a : Addr) (ps : List Addr) (kvs : List (Key × V)), xs = [.ref a] ∧ SqL K H a (ps.map V.ref) ∧ Paired (fun p kv => SqT K H p [kV kv.1, kv.2]) ps kvs ∧
    ∀ p, H p = none → Q (.ref p) (upd H p (.dK (mergeK [] kvs)))
theorem call_dictP' {X : Cx} (hc : X.calm = true) : CallR X (.type "dict") (rDictP X.K) := call_dictP hc
theorem b_dictP {K : PySem.W.Frag} {xs : List V} {H : Hp} {Q : VK} : rDictP K xs H Q = ∃ (a : Addr) (ps : List Addr) (kvs : List (Key × V)), xs = [.ref a] ∧ SqL K H a (ps.map V.ref) ∧ Paired (fun p kv => SqT K H p [kV kv.1, kv.2]) ps kvs ∧
    ∀ p, H p = none → Q (.ref p) (upd H p (.dK (mergeK [] kvs))) := rfl
theorem hu1 {k : Nat} {A : Around} (hr : Rm k A) : A.units + 1 < cLine := by
  have := hr.rm.un
  omega
theorem a_dIn {ty td : TE} {σ : L2.St} {H : Hp} {Q : VK} : tDIn ty td σ H Q = ty σ H fun y H1 => td σ H1 fun x H2 => ∃ a o, x = .ref a ∧ DGet H2 a y o ∧ Q (.bl o.isSome) H2 := rfl
theorem a_dNotIn {ty td : TE} {σ : L2.St} {H : Hp} {Q : VK} : tDNotIn ty td σ H Q = ty σ H fun y H1 => td σ H1 fun x H2 => ∃ a o, x = .ref a ∧ DGet H2 a y o ∧ Q (.bl (!o.isSome)) H2 := rfl
/-- the texts of data of short leaves -/
theorem repr_short {K : PySem.W.Frag} {H : Hp} {Q : VK} {x : V} {d : PyData} (hd : Dp K H x d) (h1 : d.showable = true) (h2 : d.hasDict = false) (h3 : d.depth ≤ 64) (h4 : d.leavesShort 800 = true) (h5 : d.bulk ≤ 10000) (q : Q (.str d.shown) H) : rReprV K [x] H Q := by
  refine ⟨x, d, rfl, hd, h1, h2, h3, ?_, q⟩
  refine Nat.le_trans (PyData.shown_le_bulk 800 (by decide) d h4) ?_
  rw [sizeLine_eq]
  omega
end Mi

namespace Mi
open PySem PySem.Spec PyProof.Rows L2
/-- figures of a number -/
structure Good (b : Nat) (l : List Nat) : Prop where
  ne : l ≠ []
  bd : ∀ d ∈ l, d < b
  hd : l.length = 1 ∨ ∀ d, l.head? = some d → 0 < d
  len : l.length ≤ 800
def sp__law_wide (K : PySem.W.Frag) (C : Str → Addr) : Sp := fun vs H Q E => ∃ (a : Addr) (d m most : Nat), vs = [.ref a, .int most] ∧ H a = some (.lst [.int d, .int m]) ∧ m < 2147483587 ∧ 0 < most ∧
  ∀ H' (d' m' g : Nat), m' < 2147483587 → g < most → Led (rmv H a) [(a, .lst [.int d', .int m'])] H' → Q (.int g) H'
def sp__law_mirrored (K : PySem.W.Frag) (C : Str → Addr) : Sp := fun vs H Q E => ∃ (a : Addr) (d m b s : Nat), vs = [.ref a, .int b, .int s] ∧ H a = some (.lst [.int d, .int m]) ∧ m < 2147483587 ∧ 2 ≤ b ∧ b ≤ 36 ∧ 1 ≤ s ∧ s ≤ 800 ∧
  ∀ H' (d' m' : Nat) (l : List Nat), m' < 2147483587 → Good b l → (∀ x, l.head? = some x → 0 < x) → l.length = s → l.reverse = l → Led (rmv H a) [(a, .lst [.int d', .int m'])] H' → Q (.int (val b l : Nat)) H'
def sp__law_number (K : PySem.W.Frag) (C : Str → Addr) : Sp := fun vs H Q E => ∃ (a : Addr) (d m b most : Nat), vs = [.ref a, .int b, .int most] ∧ H a = some (.lst [.int d, .int m]) ∧ m < 2147483587 ∧ 2 ≤ b ∧ b ≤ 36 ∧ most < lim ∧
  ∀ H' (d' m' g : Nat), m' < 2147483587 → g ≤ most → Led (rmv H a) [(a, .lst [.int d', .int m'])] H' → Q (.int g) H'
section
variable {K : PySem.W.Frag} {C : Str → Addr} {H B : Hp} {Q : VK} {E : XK} {F : List (Addr × HO)} {a : Addr} {d m : Nat}
theorem use_wide {most : Nat} (L : Led B F H) (i : Nat) (hF : F[i]? = some (a, .lst [.int d, .int m])) (hm : m < 2147483587) (hl : 0 < most)
    (q : ∀ H' (d' m' g : Nat), m' < 2147483587 → g < most → Led B (F.set i (a, .lst [.int d', .int m'])) H' → Q (.int g) H') : sp__law_wide K C [.ref a, .int most] H Q E :=
  ⟨a, d, m, most, rfl, L.get i hF, hm, hl, fun H' d' m' g hm' hg M => q H' d' m' g hm' hg (L.stepOwn (G := []) i hF M)⟩
theorem use_mirrored {b s : Nat} (L : Led B F H) (i : Nat) (hF : F[i]? = some (a, .lst [.int d, .int m])) (hm : m < 2147483587) (hb : 2 ≤ b) (hb2 : b ≤ 36) (hs : 1 ≤ s) (hs2 : s ≤ 800)
    (q : ∀ H' (d' m' : Nat) (l : List Nat), m' < 2147483587 → Good b l → (∀ x, l.head? = some x → 0 < x) → l.length = s → l.reverse = l → Led B (F.set i (a, .lst [.int d', .int m'])) H' → Q (.int (val b l : Nat)) H') : sp__law_mirrored K C [.ref a, .int b, .int s] H Q E :=
  ⟨a, d, m, b, s, rfl, L.get i hF, hm, hb, hb2, hs, hs2, fun H' d' m' l hm' h1 h2 h3 h4 M => q H' d' m' l hm' h1 h2 h3 h4 (L.stepOwn (G := []) i hF M)⟩
theorem use_number {b most : Nat} (L : Led B F H) (i : Nat) (hF : F[i]? = some (a, .lst [.int d, .int m])) (hm : m < 2147483587) (hb : 2 ≤ b) (hb2 : b ≤ 36) (hl : most < lim)
    (q : ∀ H' (d' m' g : Nat), m' < 2147483587 → g ≤ most → Led B (F.set i (a, .lst [.int d', .int m'])) H' → Q (.int g) H') : sp__law_number K C [.ref a, .int b, .int most] H Q E :=
  ⟨a, d, m, b, most, rfl, L.get i hF, hm, hb, hb2, hl, fun H' d' m' g hm' hg M => q H' d' m' g hm' hg (L.stepOwn (G := []) i hF M)⟩
theorem use_power {b m : Nat} (hb : b ≤ 36) (hm : m ≤ 100000) (q : Q (.int ((b ^ m : Nat))) H) : sp__law_power K C [.int b, .int m] H Q E := ⟨b, m, rfl, hb, hm, q⟩
end
end Mi

namespace Mi
open PySem PySem.Spec PyProof.Rows L2
section
variable {K : PySem.W.Frag} {C : Str → Addr} {H B : Hp} {Q : VK} {E : XK} {F : List (Addr × HO)} {n b : Nat}
theorem use_low (L : Led B F H) (hb : 2 ≤ b) (hb2 : b ≤ 36) (hn : n < lim1) (q : ∀ H', Led B F H' → Q (.int (lowM b n : Nat)) H') : sp_at_most K C [.int n, .int b] H Q E :=
  ⟨_, _, rfl, NB.good hb hb2 ⟨n, rfl, hn, fun H' M => q H' (L.step0 M)⟩⟩
theorem use_high (L : Led B F H) (hb : 2 ≤ b) (hb2 : b ≤ 36) (hn : n < lim1) (q : ∀ H', Led B F H' → Q (.int (highM b n : Nat)) H') : sp_at_least K C [.int n, .int b] H Q E :=
  ⟨_, _, rfl, NB.good hb hb2 ⟨n, rfl, hn, fun H' M => q H' (L.step0 M)⟩⟩
theorem use_many (L : Led B F H) (hb : 2 ≤ b) (hb2 : b ≤ 36) (hn : n < lim1) (q : ∀ H', Led B F H' → Q (.int (cnt b n : Nat)) H') : sp_many_to K C [.int n, .int b] H Q E :=
  ⟨_, _, rfl, NB.good hb hb2 ⟨n, rfl, hn, fun H' M => q H' (L.step0 M)⟩⟩
theorem use_at (L : Led B F H) (hb : 2 ≤ b) (hb2 : b ≤ 36) (hn : n < lim1) (q : ∀ H' (r : Nat), mir b r = true → cnt b r = n → r ≤ 50000 * (n + 1) * (n + 1) → Led B F H' → Q (.int r) H') : sp_mirrored_at K C [.int n, .int b] H Q E :=
  ⟨_, _, rfl, NB.good hb hb2 ⟨n, rfl, hn, fun H' r h1 h2 h3 M => q H' r h1 h2 h3 (L.step0 M)⟩⟩
theorem use_is (L : Led B F H) (hb : 2 ≤ b) (hb2 : b ≤ 36) (hn : n < lim) (q : ∀ H', Led B F H' → Q (.bl (mir b n)) H') : sp_is_mirrored K C [.int n, .int b] H Q E :=
  ⟨_, _, rfl, NB.good hb hb2 ⟨trivial, (by show (n : Int) < lim; omega), fun H' M => q H' (L.step0 M)⟩⟩
theorem use_place (L : Led B F H) (hb : 2 ≤ b) (hb2 : b ≤ 36) (hn : n < lim1) (hm : mir b n = true) (q : ∀ H', Led B F H' → Q (.int (cnt b n : Nat)) H') : sp_place_of K C [.int n, .int b] H Q E := by
  refine ⟨_, _, rfl, NB.good hb hb2 ⟨trivial, (by show (n : Int) < lim1; omega), fun e => ?_, fun m e _ H' M => ?_⟩⟩
  · have e : mir b (n : Int).toNat = false := by
      have e : (decide ((0 : Int) ≤ (n : Int)) && mir b (n : Int).toNat) = false := e
      rwa [decide_eq_true (Int.natCast_nonneg n), Bool.true_and] at e
    rw [show (n : Int).toNat = n by omega, hm] at e
    cases e
  · have : n = m := by have := V.int.inj e; omega
    subst this
    exact q H' (L.step0 M)
theorem use_figs (L : Led B F H) (hb : 2 ≤ b) (hb2 : b ≤ 36) (hn : n < lim) (q : ∀ p H', Led B ((p, .lst (nints (figs b n))) :: F) H' → Q (.ref p) H') : sp__law_figures K C [.int n, .int b] H Q E :=
  ⟨n, b, rfl, hb, hb2, hn, fun p H' M => q p H' (L.step M)⟩
theorem use_val {a : Addr} {l : List Nat} (L : Led B F H) (hS : SqL K H a (nints l)) (hb2 : b ≤ 36) (hl : ∀ d ∈ l, d ≤ 36) (hn : l.length ≤ 100000) (q : ∀ H', Led B F H' → Q (.int (val b l : Nat)) H') : sp__law_value K C [.ref a, .int b] H Q E :=
  ⟨a, l, b, rfl, hS, hb2, hl, hn, fun H' M => q H' (L.step0 M)⟩
theorem use_lpow {m : Nat} (hb : b ≤ 36) (hm : m ≤ 100000) (q : Q (.int ((b ^ m : Nat))) H) : sp__law_power K C [.int b, .int m] H Q E := ⟨b, m, rfl, hb, hm, q⟩
theorem isi_uni {x : V} {c : String} {t0 : Value} {b0 : Bool} (ht : ∀ t, TyY K H x t → t = t0) (h0 : TyY K H x t0) (hk : PySem.W.kitOne K t0 (.type c) = some b0) : rIsiY K [x, .ty c] H Q = Q (.bl b0) H := by
  apply propext
  constructor
  · rintro ⟨x', c', t, u, b, e, hc, hty, hk', q⟩
    simp only [List.cons.injEq, and_true] at e
    obtain ⟨e1, e2⟩ := e
    subst e1
    subst e2
    cases hc
    rw [ht t hty, hk] at hk'
    cases hk'
    exact q
  · intro q
    exact ⟨x, .ty c, t0, .type c, b0, rfl, .ty _, h0, hk, q⟩
theorem ty_int {i : Int} (t : Value) (h : TyY K H (.int i) t) : t = .type "int" := by
  rcases h with h | ⟨a, e, _⟩
  · cases h with
    | base h => cases h; rfl
  · cases e
theorem ty_bl {i : Bool} (t : Value) (h : TyY K H (.bl i) t) : t = .type "bool" := by
  rcases h with h | ⟨a, e, _⟩
  · cases h with
    | base h => cases h; rfl
  · cases e
theorem isi_ii {i : Int} : rIsiY K [.int i, .ty "int"] H Q = Q (.bl true) H := isi_uni ty_int (.inl (.base (.int i))) (kit_ty (by decide +kernel))
theorem isi_ib {i : Int} : rIsiY K [.int i, .ty "bool"] H Q = Q (.bl false) H := isi_uni ty_int (.inl (.base (.int i))) (kit_ty (by decide +kernel))
theorem isi_bi {i : Bool} : rIsiY K [.bl i, .ty "int"] H Q = Q (.bl true) H := isi_uni ty_bl (.inl (.base (.bl i))) (kit_ty (by decide +kernel))
theorem isi_bb {i : Bool} : rIsiY K [.bl i, .ty "bool"] H Q = Q (.bl true) H := isi_uni ty_bl (.inl (.base (.bl i))) (kit_ty (by decide +kernel))
theorem a_tru {ta : TE} {σ : L2.St} {R : Bool → Hp → Prop} : tTru K ta σ H R = ta σ H fun x H' => ∃ k, TruV K x H' k ∧ R k H' := rfl
theorem b_isB {x y : V} : rIsB x y H Q = ∃ a b : Bool, x = .bl a ∧ y = .bl b ∧ Q (.bl (decide (a = b))) H := rfl
theorem b_notB {x y : V} : rNotB x y H Q = ∃ a b : Bool, x = .bl a ∧ y = .bl b ∧ Q (.bl (!decide (a = b))) H := rfl
theorem tru_bl {i k : Bool} : TruV K (.bl i) H k = (k = i) := propext ⟨fun h => (by cases h; rfl), fun h => h ▸ rfl⟩
end
end Mi

namespace Mi
open PySem PySem.Spec PyProof.Rows L2
theorem figs40 {b : Nat} (hb : 2 ≤ b) (hb2 : b ≤ 36) : 2 ≤ (figs b (10 ^ 40)).length := by
  refine Nat.lt_of_not_le fun z => ?_
  have h1 := lt_pow_figs hb (10 ^ 40)
  have h2 : b ^ (figs b (10 ^ 40)).length ≤ 36 ^ 1 := Nat.le_trans (Nat.pow_le_pow_right (by omega) z) (Nat.pow_le_pow_left hb2 1)
  have h3 : 10 ^ 40 < 36 ^ 1 := Nat.lt_of_lt_of_le h1 h2
  exact absurd h3 (by decide +kernel)
theorem flat_rep {x : V} : ∀ k : Nat, (List.replicate k [x]).flatten = List.replicate k x
  | 0 => rfl
  | k + 1 => by rw [List.replicate_succ, List.flatten_cons, flat_rep k]; rfl

theorem cut_from (xs : List V) (m : Nat) : cutV xs (some (m : Int)) none = xs.drop m := by
  unfold cutV
  rw [HT.sIx_none, HT.sIx_nat]
  rcases Nat.le_total m xs.length with h | h
  · rw [Nat.min_eq_left h, List.take_of_length_le (by rw [List.length_drop]; omega)]
  · rw [Nat.min_eq_right h, List.drop_of_length_le (Nat.le_refl _), List.drop_of_length_le h, List.take_nil]
theorem nints_sum (l : List Nat) : (l.map fun (d : Nat) => (d : Int)).sum = (l.sum : Nat) := by
  induction l with
  | nil => rfl
  | cons x l ih => rw [List.map_cons, List.sum_cons, List.sum_cons, ih]; simp
theorem small1 {n : Nat} (h : n < 10 ^ 140) : 1000000 * (n + 1) < lim1 := by
  have : 1000000 * (10 ^ 140 + 1) < lim1 := by decide +kernel
  omega
section
variable {K : PySem.W.Frag} {C : Str → Addr} {H B : Hp} {Q : VK} {E : XK} {F : List (Addr × HO)} {n b : Nat}
theorem use_figures (L : Led B F H) (hb : 2 ≤ b) (hb2 : b ≤ 36) (hn : n < lim) (q : ∀ p H', Led B ((p, .lst (nints (figs b n))) :: F) H' → Q (.ref p) H') : sp_figures K C [.int n, .int b] H Q E := by
  refine ⟨n, .int b, rfl, trivial, hn, fun e => ?_, fun b' e _ _ p H' M => ?_⟩
  · have : isBase (.int (b : Nat)) = true := by simp [isBase]; omega
    rw [this] at e
    cases e
  · have e : b = b' := by have := V.int.inj e; omega
    subst e
    exact q p H' (L.step M)
theorem use_numof {p : Addr} {l : List Nat} (L : Led B F H) (i : Nat) (hF : F[i]? = some (p, .lst (nints l))) (hb : 2 ≤ b) (hb2 : b ≤ 36) (g : Good b l) (q : ∀ H', Led B F H' → Q (.int (val b l : Nat)) H') : sp_number_of K C [.ref p, .int b] H Q E :=
  ⟨p, l, b, rfl, L.get i hF, hb, hb2, g.ne, g.bd, g.hd, by have := g.len; omega, fun H' M => q H' (L.step0 M)⟩
theorem good_figs (hb : 2 ≤ b) (hn : n < lim) : Good b (figs b n) := by
  refine ⟨figs_ne, figs_bd hb n, ?_, Nat.le_trans (figs_len_lim hb hn) (by decide)⟩
  by_cases c : n = 0
  · subst c
    left
    unfold figs
    rw [digs_lt (by omega)]
    rfl
  · right
    exact figs_head hb n (by omega)
end
end Mi

namespace Mi
open PySem PySem.Spec PyProof.Rows L2
section
variable {K : PySem.W.Frag} {C : Str → Addr} {H B : Hp} {Q : VK} {E : XK} {F G : List (Addr × HO)} {D : Ends} {σ : L2.St} {tb : TS}
theorem Led.perm (L : Led B F H) (h : F.Perm G) : Led B G H :=
  ⟨L.base, fun x hx => L.own x (h.mem_iff.mpr hx), (h.map Prod.fst).nodup_iff.mp L.nd⟩
/-- for k, cell in the cells, the turns told -/
theorem for_cellsI {Bs : Hp} {P : Addr} {as : List Addr} {cs : List Int} {H1 : Hp} {j k : Nat} (hl : as.length = cs.length) (hc : cs.length ≤ 64) (L : ∀ x ∈ (P, HO.lst (as.map V.ref)) :: enF as (cs.map V.int), Bs x.1 = some x.2)
    (Pv : Nat → L2.St → Hp → Prop) (h0 : Pv 0 σ H1) (hB : ∀ i σ H, Pv i σ H → Led Bs [] H)
    (hs : ∀ N : Nat → L2.St → Hp → Prop, (∀ i σ H, Pv i σ H → N i σ H) → ∀ (i : Nat) (c : Int) σ H, i < 64 → Pv i σ H → tb { D with nx := N (i + 1), ct := N (i + 1), bk := D.nx } ((σ.set j (some (.int (i : Nat)))).set k (some (.int c))) H)
    (hd : ∀ i σ H, i ≤ 64 → Pv i σ H → D.nx σ H) : ForG (Itl K P) (g2 K j k) tb D σ H1 := by
  have hP : Bs P = some (.lst (as.map V.ref)) := L _ List.mem_cons_self
  have hT : ∀ (i : Nat) b x y, as[i]? = some b → ((List.range as.length).map fun j => V.int (j : Nat))[i]? = some x → (cs.map V.int)[i]? = some y → Bs b = some (.tup [x, y]) := by
    intro i b x y h1 h2 h3
    have hi := lt_of_get h1
    rw [List.getElem?_map, List.getElem?_range hi] at h2
    cases h2
    exact L _ (List.mem_cons_of_mem _ (enF_get (by rw [List.length_map]; exact hl) h1 h3))
  refine for_lp (as := as) (xs := (List.range as.length).map fun j => V.int (j : Nat)) (ys := cs.map V.int) (by simp) (by simp [hl]) (fun i σ H2 => Pv i σ H2) h0 ?_ ?_ fun σ H p => hd _ σ H (by omega) p
  · intro i σ H2 p
    have L2 := hB i σ H2 p
    exact ⟨SqL.of (L2.base _ _ hP), fun i b x y h1 h2 h3 => SqT.of (L2.base _ _ (hT i b x y h1 h2 h3))⟩
  · intro N hN i x y σ H2 hx hy p
    obtain ⟨c, hc, rfl⟩ : ∃ c : Int, cs[i]? = some c ∧ y = .int c := by
      rw [List.getElem?_map] at hy
      cases e : cs[i]? with
      | none => rw [e] at hy; cases hy
      | some c => rw [e] at hy; cases hy; exact ⟨c, rfl, rfl⟩
    have hi : i < as.length := by
      have := lt_of_get hx
      rw [List.length_map, List.length_range] at this
      exact this
    rw [List.getElem?_map, List.getElem?_range hi] at hx
    cases hx
    exact hs N hN i c σ H2 (by omega) p
/-- lists held by twos: the pair, both lists, what both hold -/
structure Hold where
  r : Addr
  x : Addr
  y : Addr
  l : List Nat
def hoF (hs : List Hold) : List (Addr × HO) := hs.flatMap fun t => [(t.r, .lst [.ref t.x, .ref t.y]), (t.x, .lst (nints t.l)), (t.y, .lst (nints t.l))]
def hoV (hs : List Hold) : List V := hs.map fun t => V.ref t.r
theorem hoV_len (hs : List Hold) : (hoV hs).length = hs.length := by simp [hoV]
theorem hoF_mem {hs : List Hold} {t : Hold} (h : t ∈ hs) : (t.r, HO.lst [.ref t.x, .ref t.y]) ∈ hoF hs ∧ (t.x, HO.lst (nints t.l)) ∈ hoF hs ∧ (t.y, HO.lst (nints t.l)) ∈ hoF hs := by
  unfold hoF
  refine ⟨List.mem_flatMap.mpr ⟨t, h, by simp⟩, List.mem_flatMap.mpr ⟨t, h, by simp⟩, List.mem_flatMap.mpr ⟨t, h, by simp⟩⟩
theorem hoF_snoc (hs : List Hold) (t : Hold) : hoF (hs ++ [t]) = hoF hs ++ [(t.r, .lst [.ref t.x, .ref t.y]), (t.x, .lst (nints t.l)), (t.y, .lst (nints t.l))] := by
  unfold hoF
  rw [List.flatMap_append]
  simp
end
end Mi

/-! few -/
namespace Mi
open PySem PySem.Spec PyProof.Rows L2
def sp_a_few (K : PySem.W.Frag) (C : Str → Addr) : Sp := fun vs H Q E => ∃ y x : V, vs = [y, x] ∧ NB K C H E x fun b => ∃ n : Nat, y = .int n ∧ n < lim1 ∧ ∀ p H', Led H [(p, .lst (nints (fews b n)))] H' → Q (.ref p) H'
section
variable {K : PySem.W.Frag} {C : Str → Addr} {H B : Hp} {Q : VK} {E : XK} {F : List (Addr × HO)} {n b : Nat}
theorem use_few (L : Led B F H) (hb : 2 ≤ b) (hb2 : b ≤ 36) (hn : n < lim1) (q : ∀ p H', Led B ((p, .lst (nints (fews b n))) :: F) H' → Q (.ref p) H') : sp_a_few K C [.int n, .int b] H Q E :=
  ⟨_, _, rfl, NB.good hb hb2 ⟨n, rfl, hn, fun p H' M => q p H' (L.step M)⟩⟩
end
end Mi

/-! ways by two -/
namespace Mi
open PySem PySem.Spec PyProof.Rows L2
/-- pairs that were laid: at as, of the first parts ms of n -/
def prF (as : List Addr) (ms : List Nat) (n : Nat) : List (Addr × HO) := (as.zip ms).map fun x => (x.1, .lst [.int (x.2 : Nat), .int ((n - x.2 : Nat) : Int)])
def sp_some_by_two (K : PySem.W.Frag) (C : Str → Addr) : Sp := fun vs H Q E => ∃ n b k : Nat, vs = [.int n, .int b, .int k] ∧ 2 ≤ b ∧ b ≤ 36 ∧ n ≤ 10000000 ∧
  ∀ p as H', as.length = ((twos b n).take k).length → Led H ((p, .lst (as.map V.ref)) :: prF as ((twos b n).take k) n) H' → Q (.ref p) H'
def sp_by_two (K : PySem.W.Frag) (C : Str → Addr) : Sp := fun vs H Q E => ∃ y x : V, vs = [y, x] ∧ NB K C H E x fun b => ∃ n : Nat, y = .int n ∧ n ≤ 10000000 ∧
  ∀ p as H', as.length = (twos b n).length → Led H ((p, .lst (as.map V.ref)) :: prF as (twos b n) n) H' → Q (.ref p) H'
def sp_many_by_two (K : PySem.W.Frag) (C : Str → Addr) : Sp := fun vs H Q E => ∃ y x : V, vs = [y, x] ∧ NB K C H E x fun b => ∃ n : Nat, y = .int n ∧ n ≤ 10000000 ∧ ∀ H', Led H [] H' → Q (.int ((twos b n).length : Nat)) H'
def sp_first_by_two (K : PySem.W.Frag) (C : Str → Addr) : Sp := fun vs H Q E => ∃ y x : V, vs = [y, x] ∧ NB K C H E x fun b => ∃ n : Nat, y = .int n ∧ n ≤ 10000000 ∧ (twos b n = [] → ∀ H', Led H [] H' → Q .non H') ∧
  ∀ m r, twos b n = m :: r → ∀ p H', Led H [(p, .lst [.int (m : Nat), .int ((n - m : Nat) : Int)])] H' → Q (.ref p) H'
theorem prF_snoc {as : List Addr} {ms : List Nat} {n : Nat} {a : Addr} {m : Nat} (h : as.length = ms.length) : prF (as ++ [a]) (ms ++ [m]) n = prF as ms n ++ [(a, .lst [.int (m : Nat), .int ((n - m : Nat) : Int)])] := by
  unfold prF
  rw [List.zip_append h, List.map_append]
  rfl
end Mi

/-! some drawn mirrored ones; pairs laid -/
namespace Mi
open PySem PySem.Spec PyProof.Rows L2
theorem good_facts {b s : Nat} (hb : 2 ≤ b) {l : List Nat} (good : Good b l) (hpos : ∀ x, l.head? = some x → 0 < x) (hl : l.length ≤ s) (hrev : l.reverse = l) : mir b (val b l) = true ∧ 0 < val b l ∧ val b l < b ^ s := by
  refine ⟨?_, ?_, ?_⟩
  · unfold mir
    rw [figs_val hb l good.ne good.bd good.hd, hrev]
    exact decide_eq_true rfl
  · cases l with
    | nil => exact absurd rfl good.ne
    | cons x l =>
      rw [val_cons]
      have h1 := hpos x rfl
      have h2 : 0 < x * b ^ l.length := Nat.mul_pos h1 (Nat.pow_pos (by omega))
      omega
  · exact Nat.lt_of_lt_of_le (val_lt (by omega) l good.bd) (Nat.pow_le_pow_right (by omega) hl)
section
variable {K : PySem.W.Frag} {C : Str → Addr} {H B : Hp} {Q : VK} {E : XK} {F G : List (Addr × HO)} {D : Ends} {σ : L2.St} {tb : TS} {a : Addr} {d m : Nat}
theorem set_same {F : List (Addr × HO)} {i : Nat} {x : Addr × HO} (h : F[i]? = some x) : F.set i x = F := by
  apply List.ext_getElem?
  intro k
  by_cases hk : i = k
  · subst hk
    rw [List.getElem?_set_self (lt_of_get h), h]
  · rw [List.getElem?_set_ne hk]
/-- [_law_mirrored(hand, base, 1 + _law_draw(hand, S)) for j in range(n)] -/
theorem lc_both {h w j n b sz : Nat} {teS : TE} {P : Addr} {Qd : Hp → Prop} (L : Led B F H) (hP : H P = none) (i : Nat) (hF : F[i]? = some (a, .lst [.int d, .int m])) (hm : m < 2147483587) (hb : 2 ≤ b) (hb2 : b ≤ 36) (hs : 0 < sz) (hs2 : sz ≤ 700)
    (hh : ∀ x, ((wipe σ [j]).set j x)[h]? = some (some (.ref a))) (hw : ∀ x, ((wipe σ [j]).set j x)[w]? = some (some (.int b))) (hS : ∀ x H Q, Q (.int sz) H → teS ((wipe σ [j]).set j x) H Q) (hj : ∀ x, wipe ((wipe σ [j]).set j x) [j] = wipe σ [j]) (hn : n < sizeLine)
    (q : ∀ H' (d' m' : Nat) (ls : List Nat), ls.length = n → (∀ x ∈ ls, mir b x = true ∧ 0 < x ∧ x < b ^ sz) → m' < 2147483587 → Led B ((P, .lst (nints ls)) :: F.set i (a, .lst [.int d', .int m'])) H' → Qd H') :
    LcG (Itr 0 n) (gName j) tYes (tGo (sp__law_mirrored K C) (fun _ => E0) (tCons (tVar h) (tCons (tVar w) (tCons (tOp (rI0 fun i j => .int (i + j)) (tC (.int 1)) (tGo (sp__law_draw K C) (fun _ => E0) (tCons (tVar h) (tCons teS tNil)))) tNil)))) [j] σ P Qd H := by
  refine lc_g walk_range (fun k H' => ∃ (d' m' : Nat) (ls : List Nat), ls.length = k ∧ (∀ x ∈ ls, mir b x = true ∧ 0 < x ∧ x < b ^ sz) ∧ m' < 2147483587 ∧ Led B ((P, .lst (nints ls)) :: F.set i (a, .lst [.int d', .int m'])) H') ?_ (fun _ _ _ _ => trivial) ?_ ?_
  · exact ⟨d, m, [], rfl, fun x hx => (nomatch hx), hm, by rw [set_same hF]; exact L.new hP⟩
  · rintro k x H1 H2 hk ⟨d', m', ls, e1, e2, e3, L1⟩ y
    obtain ⟨e, y⟩ := y
    subst e
    subst y
    have hF' : (F.set i (a, HO.lst [.int d', .int m']))[i]? = some (a, .lst [.int d', .int m']) := List.getElem?_set_self (lt_of_get hF)
    have hF2 : ((P, HO.lst (nints ls)) :: F.set i (a, HO.lst [.int d', .int m']))[i + 1]? = some (a, .lst [.int d', .int m']) := by
      rw [List.getElem?_cons_succ]
      exact hF'
    refine ⟨hj _, ?_⟩
    rw [a_yes, if_pos rfl]
    refine ⟨_, hh _, _, hw _, ?_⟩
    simp only [a_op, a_c, a_go, a_cons, a_nil, a_var, a_rI0]
    refine ⟨_, hh _, hS _ _ _ ?_⟩
    refine use_draw L1 (i + 1) hF2 e3 hs (by omega) fun H3 d3 m3 g hm3 hg L3 => ⟨_, _, rfl, rfl, ?_⟩
    rw [show (1 : Int) + (g : Nat) = ((1 + g : Nat) : Int) by omega]
    rw [List.set_cons_succ, List.set_set] at L3
    have hF3 : ((P, HO.lst (nints ls)) :: F.set i (a, HO.lst [.int d3, .int m3]))[i + 1]? = some (a, .lst [.int d3, .int m3]) := by
      rw [List.getElem?_cons_succ]
      exact List.getElem?_set_self (lt_of_get hF)
    refine use_mirrored L3 (i + 1) hF3 hm3 hb hb2 (by omega) (by omega) fun H4 d4 m4 l hm4 good hpos hll hrev L4 => ?_
    rw [List.set_cons_succ, List.set_set] at L4
    refine ⟨_, L4.get 0 rfl, by rw [nints_len, e1]; omega, d4, m4, ls ++ [val b l], ?_, ?_, hm4, ?_⟩
    · rw [List.length_append, e1]
      rfl
    · intro x hx
      rcases List.mem_append.mp hx with z | z
      · exact e2 x z
      · rw [List.mem_singleton.mp z]
        exact good_facts hb good hpos (by omega) hrev
    · have e4 : nints (ls ++ [val b l]) = nints ls ++ [.int (val b l : Nat)] := by simp [nints]
      rw [e4]
      exact L4.put 0 rfl
  · rintro H' ⟨d', m', ls, e1, e2, e3, L1⟩
    exact q H' d' m' ls e1 e2 e3 L1
/-- the size of the drawn halves stays below a million -/
theorem size6 {b s : Nat} (hb : 2 ≤ b) (hs : s ≤ ln b 1000000 - 1) : b ^ s ≤ 1000000 :=
  Nat.le_trans (Nat.pow_le_pow_right (by omega) hs) (ln_low hb (by decide))
theorem ln6 {b : Nat} (hb : 2 ≤ b) (hb2 : b ≤ 36) : 4 ≤ ln b 1000000 ∧ ln b 1000000 ≤ 20 := by
  refine ⟨Nat.lt_of_not_le fun z => ?_, ?_⟩
  · have h1 := ln_high (n := 1000000) hb
    have h2 : b ^ ln b 1000000 ≤ 36 ^ 3 := Nat.le_trans (Nat.pow_le_pow_right (by omega) z) (Nat.pow_le_pow_left hb2 3)
    have h3 : 1000000 < 36 ^ 3 := Nat.lt_of_lt_of_le h1 h2
    exact absurd h3 (by decide)
  · exact figs_len hb (Nat.lt_of_lt_of_le (show 1000000 < 2 ^ 20 by decide) (Nat.pow_le_pow_left hb 20)) (by decide)
theorem prF_get {as : List Addr} {ms : List Nat} {n k : Nat} {x : V} (hl : as.length = ms.length) (hx : (as.map V.ref)[k]? = some x) : ∃ w m, x = .ref w ∧ as[k]? = some w ∧ ms[k]? = some m ∧ (w, HO.lst [.int (m : Nat), .int ((n - m : Nat) : Int)]) ∈ prF as ms n := by
  rw [List.getElem?_map] at hx
  cases e : as[k]? with
  | none => rw [e] at hx; cases hx
  | some w =>
    rw [e] at hx
    cases hx
    have hk := lt_of_get e
    obtain ⟨m, hm⟩ : ∃ m, ms[k]? = some m := ⟨_, List.getElem?_eq_getElem (by omega)⟩
    refine ⟨w, m, rfl, rfl, hm, ?_⟩
    unfold prF
    refine List.mem_map.mpr ⟨(w, m), ?_, rfl⟩
    refine List.mem_of_getElem? (i := k) ?_
    rw [List.getElem?_zip_eq_some]
    exact ⟨e, hm⟩
def pairD (n m : Nat) : PyData := .list [.int (m : Nat), .int ((n - m : Nat) : Int)]
theorem dp_pairs (n : Nat) : ∀ (as : List Addr) (ms : List Nat), as.length = ms.length → (∀ x ∈ prF as ms n, H x.1 = some x.2) → DpAll K H (as.map V.ref) (ms.map fun m => pairD n m)
  | [], [], _, _ => .nil
  | [], _ :: _, h, _ => by cases h
  | _ :: _, [], h, _ => by cases h
  | a :: as, m :: ms, h, hx => by
    refine .cons (.lst (SqL.of (hx (a, _) (by unfold prF; rw [List.zip_cons_cons, List.map_cons]; exact List.mem_cons_self))) (.cons (.int _) (.cons (.int _) .nil))) (dp_pairs n as ms (Nat.succ.inj h) fun x hm => hx x ?_)
    unfold prF at hm ⊢
    rw [List.zip_cons_cons, List.map_cons]
    exact List.mem_cons_of_mem _ hm
theorem shaped_pairs (n : Nat) (ms : List Nat) : SeqAt.shaped (.list (ms.map fun m => pairD n m)) = true := by
  have h : ∀ ms : List Nat, PyData.canLayAll0 (ms.map fun m => pairD n m) = true ∧ PyData.depthAll (ms.map fun m => pairD n m) ≤ 1 := by
    intro ms
    induction ms with
    | nil => exact ⟨rfl, Nat.zero_le _⟩
    | cons m ms ih =>
      refine ⟨?_, ?_⟩
      · show (PyData.canLay0 (pairD n m) && _) = true
        rw [ih.1]
        rfl
      · show max 1 _ ≤ 1
        exact Nat.max_le.mpr ⟨Nat.le_refl _, ih.2⟩
  show (PyData.canLayAll0 _ && decide (PyData.depthAll _ + 1 ≤ 64)) = true
  rw [(h ms).1, decide_eq_true (by have := (h ms).2; omega)]
  rfl
/-- the pair m, n - m and the pair x, y -/
theorem pair_eq (n m : Nat) (x y : Nat) : PyData.eqv (pairD n m) (.list [.int (x : Nat), .int (y : Nat)]) = decide (m = x ∧ n - m = y) := by
  have e : PyData.eqv (pairD n m) (.list [.int (x : Nat), .int (y : Nat)]) = (((m : Int) == (x : Int)) && ((((n - m : Nat) : Int) == (y : Int)) && true)) := by simp only [pairD, PyData.eqv, PyData.eqvAll]
  rw [e]
  by_cases h1 : m = x
  · by_cases h2 : n - m = y
    · rw [decide_eq_true ⟨h1, h2⟩, h2, h1]
      simp
    · rw [decide_eq_false (fun z => h2 z.2)]
      have q : (((n - m : Nat) : Int) == (y : Int)) = false := beq_eq_false_iff_ne.mpr (by omega)
      rw [q, Bool.false_and, Bool.and_false]
  · rw [decide_eq_false (fun z => h1 z.1)]
    have q : (((m : Nat) : Int) == (x : Int)) = false := beq_eq_false_iff_ne.mpr (by omega)
    rw [q, Bool.false_and]
theorem pairs_any (n x y : Nat) (ms : List Nat) : ((ms.map fun m => pairD n m).any fun z => PyData.eqv z (.list [.int (x : Nat), .int (y : Nat)])) = decide (x ∈ ms ∧ n - x = y) := by
  induction ms with
  | nil => rw [decide_eq_false (fun z => nomatch z.1)]; rfl
  | cons m ms ih =>
    rw [List.map_cons, List.any_cons, ih, pair_eq]
    by_cases h : m = x ∧ n - m = y
    · rw [decide_eq_true h, decide_eq_true (show x ∈ m :: ms ∧ n - x = y from ⟨by rw [h.1]; exact List.mem_cons_self, by rw [← h.1]; exact h.2⟩)]
      rfl
    · rw [decide_eq_false h, Bool.false_or]
      by_cases h2 : x ∈ ms ∧ n - x = y
      · rw [decide_eq_true h2, decide_eq_true (show x ∈ m :: ms ∧ n - x = y from ⟨List.mem_cons_of_mem _ h2.1, h2.2⟩)]
      · rw [decide_eq_false h2, decide_eq_false]
        rintro ⟨z1, z2⟩
        rcases List.mem_cons.mp z1 with z | z
        · exact h ⟨z.symm, by rw [← z]; exact z2⟩
        · exact h2 ⟨z, z2⟩
theorem pairs_count (n x y : Nat) (ms : List Nat) (h : n - x = y) : ((ms.map fun m => pairD n m).countP fun z => PyData.eqv z (.list [.int (x : Nat), .int (y : Nat)])) = ms.count x := by
  induction ms with
  | nil => rfl
  | cons m ms ih =>
    rw [List.map_cons, List.countP_cons, ih, List.count_cons, pair_eq]
    by_cases e : m = x
    · subst e
      rw [decide_eq_true ⟨rfl, h⟩]
      simp
    · rw [decide_eq_false (fun z => e z.1)]
      simp [e]
/-- the first of the pairs, or None -/
def firstD (n : Nat) : List Nat → PyData
  | [] => .none
  | m :: _ => pairD n m
theorem firstD_shaped (n : Nat) (ms : List Nat) : SeqAt.shaped (firstD n ms) = true := by
  cases ms with
  | nil => rfl
  | cons m r => rfl
theorem firstD_eqv (n : Nat) (ms : List Nat) : PyData.eqv (firstD n ms) (firstD n ms) = true := by
  cases ms with
  | nil => rfl
  | cons m r =>
    show PyData.eqv (pairD n m) (.list [.int (m : Nat), .int ((n - m : Nat) : Int)]) = true
    rw [pair_eq]
    exact decide_eq_true ⟨rfl, rfl⟩
theorem use_firstD {n b : Nat} (L : Led B F H) (hb : 2 ≤ b) (hb2 : b ≤ 36) (hn : n ≤ 10000000) (q : ∀ x H', Led B F H' → Dp K H' x (firstD n (twos b n)) → (x = .non ↔ twos b n = []) → Q x H') : sp_first_by_two K C [.int n, .int b] H Q E :=
  ⟨_, _, rfl, NB.good hb hb2 ⟨n, rfl, hn, fun e H' M => q _ H' (L.step0 M) (by rw [e]; exact .non) ⟨fun _ => e, fun _ => rfl⟩, fun m r e p H' M => q _ H' (L.step0 M.none) (by rw [e]; exact .lst (M.sqI 0 rfl) (.cons (.int _) (.cons (.int _) .nil))) ⟨fun z => (nomatch z), fun z => by rw [e] at z; cases z⟩⟩⟩
/-- (ways + [None])[0] -/
theorem first_at {n : Nat} {as : List Addr} {ms : List Nat} (hl : as.length = ms.length) : ∃ y, atI (as.map V.ref ++ [V.non]) 0 = some y ∧ ∀ H' : Hp, (∀ x ∈ prF as ms n, H' x.1 = some x.2) → Dp K H' y (firstD n ms) := by
  cases as with
  | nil =>
    cases ms with
    | nil => exact ⟨.non, rfl, fun _ _ => .non⟩
    | cons _ _ => cases hl
  | cons a as =>
    cases ms with
    | nil => cases hl
    | cons m r =>
      refine ⟨.ref a, atI_nat (j := 0) (v := V.ref a) rfl, fun H' h => .lst (SqL.of (h (a, _) ?_)) (.cons (.int _) (.cons (.int _) .nil))⟩
      unfold prF
      rw [List.zip_cons_cons, List.map_cons]
      exact List.mem_cons_self
end
end Mi

/-! comprehensions: filter and map -/
namespace Mi
open PySem PySem.Spec PyProof.Rows L2
theorem nints_append (l m : List Nat) : nints (l ++ m) = nints l ++ nints m := by simp [nints]
theorem nints_at {l : List Nat} {i m : Nat} (h : l[i]? = some m) : (nints l)[i]? = some (.int (m : Nat)) := by
  unfold nints
  rw [List.getElem?_map, List.getElem?_map, h]
  rfl
theorem take_succ_get {α : Type} {l : List α} {i : Nat} {x : α} (h : l[i]? = some x) : l.take (i + 1) = l.take i ++ [x] := by
  rw [List.take_succ, h]
  rfl
section
variable {K : PySem.W.Frag} {C : Str → Addr} {H B : Hp} {Q : VK} {E : XK} {F G : List (Addr × HO)} {D : Ends} {σ : L2.St} {tt : TT} {te : TE} {vs : List Nat}
/-- [f(x) for x in xs if p(x)], xs a list of values -/
theorem lc_fmv {a : Addr} {xs : List V} {j : Nat} {P : Addr} {Qd : Hp → Prop} (L : Led B F H) (hP : H P = none) (hS : ∀ H, Led B F H → SqL K H a xs) (p : V → Bool) (f : V → V) (hl : xs.length < sizeLine)
    (hw : ∀ x, wipe ((wipe σ vs).set j x) vs = wipe σ vs)
    (ht : ∀ x ∈ xs, ∀ F' H R, Led B (F' ++ F) H → (∀ H', Led B (F' ++ F) H' → R (p x) H') → tt ((wipe σ vs).set j (some x)) H R)
    (he : ∀ x ∈ xs, p x = true → ∀ F' H R, Led B (F' ++ F) H → (∀ H', Led B (F' ++ F) H' → R (f x) H') → te ((wipe σ vs).set j (some x)) H R)
    (hd : ∀ H', Led B ((P, .lst ((xs.filter p).map f)) :: F) H' → Qd H') : LcG (Itl K a) (gName j) tt te vs σ P Qd H := by
  refine lc_l L hP hS (fun i => ((xs.take i).filter p).map f) rfl ?_ ?_
  · intro i x H1 hx L1
    have hmem := List.mem_of_getElem? hx
    refine ⟨hw _, ht x hmem [(P, _)] H1 _ L1 fun H2 L2 => ?_⟩
    have e : ((xs.take (i + 1)).filter p).map f = ((xs.take i).filter p).map f ++ if p x = true then [f x] else [] := by
      rw [take_succ_get hx, List.filter_append, List.map_append]
      congr 1
      by_cases c : p x = true
      · rw [if_pos c]
        simp [c]
      · rw [if_neg c]
        simp [c]
    by_cases c : p x = true
    · rw [if_pos c] at e ⊢
      refine he x hmem c [(P, _)] H2 _ L2 fun H3 L3 => lc_y L3 e ?_
      rw [List.length_map]
      have h1 := List.length_filter_le p (xs.take i)
      rw [List.length_take] at h1
      omega
    · rw [if_neg c, List.append_nil] at e
      rw [if_neg c]
      exact lc_n L2 e
  · intro H' L'
    rw [List.take_of_length_le (Nat.le_refl _)] at L'
    exact hd H' L'
/-- the same over naturals -/
theorem lc_fm {a : Addr} {l : List Nat} {j : Nat} {P : Addr} {Qd : Hp → Prop} (L : Led B F H) (hP : H P = none) (hS : ∀ H, Led B F H → SqL K H a (nints l)) (p : Nat → Bool) (f : Nat → V) (hl : l.length < sizeLine)
    (hw : ∀ x, wipe ((wipe σ vs).set j x) vs = wipe σ vs)
    (ht : ∀ x ∈ l, ∀ F' H R, Led B (F' ++ F) H → (∀ H', Led B (F' ++ F) H' → R (p x) H') → tt ((wipe σ vs).set j (some (.int (x : Nat)))) H R)
    (he : ∀ x ∈ l, p x = true → ∀ F' H R, Led B (F' ++ F) H → (∀ H', Led B (F' ++ F) H' → R (f x) H') → te ((wipe σ vs).set j (some (.int (x : Nat)))) H R)
    (hd : ∀ H', Led B ((P, .lst ((l.filter p).map f)) :: F) H' → Qd H') : LcG (Itl K a) (gName j) tt te vs σ P Qd H := by
  refine lc_l L hP hS (fun i => ((l.take i).filter p).map f) rfl ?_ ?_
  · intro i x H1 hx L1
    obtain ⟨m, hm, rfl⟩ := nints_get hx
    have hmem := List.mem_of_getElem? hm
    refine ⟨hw _, ht m hmem [(P, _)] H1 _ L1 fun H2 L2 => ?_⟩
    have e : ((l.take (i + 1)).filter p).map f = ((l.take i).filter p).map f ++ if p m = true then [f m] else [] := by
      rw [take_succ_get hm, List.filter_append, List.map_append]
      congr 1
      by_cases c : p m = true
      · rw [if_pos c]
        simp [c]
      · rw [if_neg c]
        simp [c]
    by_cases c : p m = true
    · rw [if_pos c] at e ⊢
      refine he m hmem c [(P, _)] H2 _ L2 fun H3 L3 => lc_y L3 e ?_
      rw [List.length_map]
      have h1 := List.length_filter_le p (l.take i)
      rw [List.length_take] at h1
      omega
    · rw [if_neg c, List.append_nil] at e
      rw [if_neg c]
      exact lc_n L2 e
  · intro H' L'
    rw [nints_len, List.take_of_length_le (Nat.le_refl _)] at L'
    exact hd H' L'
/-- over a range from lo on, n numbers -/
theorem lc_fmr {lo n j : Nat} {P : Addr} {Qd : Hp → Prop} (L : Led B F H) (hP : H P = none) (p : Nat → Bool) (f : Nat → V) (hl : n < sizeLine)
    (hw : ∀ x, wipe ((wipe σ vs).set j x) vs = wipe σ vs)
    (ht : ∀ x, lo ≤ x → x < lo + n → ∀ F' H R, Led B (F' ++ F) H → (∀ H', Led B (F' ++ F) H' → R (p x) H') → tt ((wipe σ vs).set j (some (.int (x : Nat)))) H R)
    (he : ∀ x, lo ≤ x → x < lo + n → p x = true → ∀ F' H R, Led B (F' ++ F) H → (∀ H', Led B (F' ++ F) H' → R (f x) H') → te ((wipe σ vs).set j (some (.int (x : Nat)))) H R)
    (hd : ∀ H', Led B ((P, .lst (((List.range' lo n).filter p).map f)) :: F) H' → Qd H') : LcG (Itr (lo : Int) n) (gName j) tt te vs σ P Qd H := by
  refine lc_r L hP (fun i => ((List.range' lo i).filter p).map f) rfl ?_ ?_
  · intro i H1 hi L1
    rw [show (lo : Int) + i = ((lo + i : Nat) : Int) by omega]
    refine ⟨hw _, ht (lo + i) (by omega) (by omega) [(P, _)] H1 _ L1 fun H2 L2 => ?_⟩
    have e : ((List.range' lo (i + 1)).filter p).map f = ((List.range' lo i).filter p).map f ++ if p (lo + i) = true then [f (lo + i)] else [] := by
      rw [List.range'_concat, List.filter_append, List.map_append, Nat.one_mul]
      congr 1
      by_cases c : p (lo + i) = true
      · rw [if_pos c]
        simp [c]
      · rw [if_neg c]
        simp [c]
    by_cases c : p (lo + i) = true
    · rw [if_pos c] at e ⊢
      refine he (lo + i) (by omega) (by omega) c [(P, _)] H2 _ L2 fun H3 L3 => lc_y L3 e ?_
      rw [List.length_map]
      have h1 := List.length_filter_le p (List.range' lo i)
      rw [List.length_range'] at h1
      omega
    · rw [if_neg c, List.append_nil] at e
      rw [if_neg c]
      exact lc_n L2 e
  · exact hd
end
end Mi

/-! comprehensions that make objects; dicts of numbers -/
namespace Mi
open PySem PySem.Spec PyProof.Rows L2
theorem valV_merge (ms : List Int) (g : Int → V) (k : Int) : ∀ kvs : List (Key × V), valV (mergeK kvs (ms.map fun m => ((Sum.inl m : Key), g m))) (Sum.inl k : Key) = if k ∈ ms then some (g k) else valV kvs (Sum.inl k : Key) := by
  induction ms with
  | nil =>
    intro kvs
    rw [if_neg (by simp)]
    rfl
  | cons m ms ih =>
    intro kvs
    show valV (mergeK (putK kvs (Sum.inl m : Key) (g m)) (ms.map fun m => ((Sum.inl m : Key), g m))) _ = _
    rw [ih, valV_put]
    by_cases c : k ∈ ms
    · rw [if_pos c, if_pos (List.mem_cons_of_mem _ c)]
    · rw [if_neg c]
      by_cases c2 : k = m
      · subst c2
        rw [if_pos rfl, if_pos List.mem_cons_self]
      · rw [if_neg (show ¬ (Sum.inl k : Key) = Sum.inl m from fun z => c2 (Sum.inl.inj z)), if_neg (fun z => by
          rcases List.mem_cons.mp z with z | z
          · exact c2 z
          · exact c z)]
theorem prF_zip {as : List Addr} {ms : List Nat} {n : Nat} : prF as ms n = as.zip (ms.map fun m => HO.lst [.int (m : Nat), .int ((n - m : Nat) : Int)]) := by
  unfold prF
  rw [List.zip_map_right]
  rfl
section
variable {K : PySem.W.Frag} {C : Str → Addr} {H B : Hp} {Q : VK} {E : XK} {F G : List (Addr × HO)} {D : Ends} {σ : L2.St} {tt : TT} {te : TE} {vs : List Nat}
/-- [object of x for x in xs if p(x)], over naturals -/
theorem lc_obj {a : Addr} {l : List Nat} {j : Nat} {P : Addr} {Qd : Hp → Prop} (L : Led B F H) (hP : H P = none) (hS : ∀ F' H, Led B (F' ++ F) H → SqL K H a (nints l)) (p : Nat → Bool) (f : Nat → HO) (hl : l.length < sizeLine)
    (hw : ∀ x, wipe ((wipe σ vs).set j x) vs = wipe σ vs)
    (ht : ∀ x ∈ l, ∀ F' H R, Led B (F' ++ F) H → (∀ H', Led B (F' ++ F) H' → R (p x) H') → tt ((wipe σ vs).set j (some (.int (x : Nat)))) H R)
    (he : ∀ x ∈ l, p x = true → ∀ F' H R, Led B (F' ++ F) H → (∀ a H', Led B ((a, f x) :: (F' ++ F)) H' → R (.ref a) H') → te ((wipe σ vs).set j (some (.int (x : Nat)))) H R)
    (hd : ∀ (as : List Addr) H', as.length = (l.filter p).length → Led B ((P, .lst (as.map V.ref)) :: (as.zip ((l.filter p).map f) ++ F)) H' → Qd H') : LcG (Itl K a) (gName j) tt te vs σ P Qd H := by
  refine lc_g walk_list (fun i H' => ∃ as : List Addr, as.length = ((l.take i).filter p).length ∧ Led B ((P, .lst (as.map V.ref)) :: (as.zip (((l.take i).filter p).map f) ++ F)) H') ⟨[], rfl, L.new hP⟩ (fun i H' _ ⟨as, _, L'⟩ => hS ((P, .lst (as.map V.ref)) :: as.zip (((l.take i).filter p).map f)) _ L') ?_ ?_
  · rintro i x H1 H2 hi ⟨as, hal, L1⟩ y
    obtain ⟨e, y⟩ := y
    subst e
    obtain ⟨m, hm, rfl⟩ := nints_get y
    have hmem := List.mem_of_getElem? hm
    have hmem := hmem
    refine ⟨hw _, ht m hmem ((P, .lst (as.map V.ref)) :: as.zip (((l.take i).filter p).map f)) _ _ L1 fun H2 L2 => ?_⟩
    have e : (l.take (i + 1)).filter p = (l.take i).filter p ++ if p m = true then [m] else [] := by
      rw [take_succ_get hm, List.filter_append]
      congr 1
      by_cases c : p m = true
      · rw [if_pos c]
        simp [c]
      · rw [if_neg c]
        simp [c]
    have hk : ((l.take i).filter p).length ≤ l.length := by
      have h1 := List.length_filter_le p (l.take i)
      rw [List.length_take] at h1
      omega
    by_cases c : p m = true
    · rw [if_pos c] at e ⊢
      refine he m hmem c ((P, .lst (as.map V.ref)) :: as.zip (((l.take i).filter p).map f)) H2 _ L2 fun w H3 L3 => ?_
      refine ⟨as.map V.ref, L3.get 1 rfl, by rw [List.length_map, hal]; omega, as ++ [w], by rw [e, List.length_append, List.length_append, hal]; rfl, ?_⟩
      rw [e, List.map_append, List.map_append, List.zip_append (by rw [List.length_map, hal])]
      have L4 := L3.put (o' := .lst (as.map V.ref ++ [V.ref w])) 1 rfl
      refine L4.perm ?_
      rw [List.set_cons_succ]
      show ((w, f m) :: ((P, HO.lst (as.map V.ref ++ [V.ref w])) :: (as.zip (((l.take i).filter p).map f) ++ F))).Perm _
      refine (List.Perm.swap _ _ _).trans (List.Perm.cons _ ?_)
      rw [List.append_assoc]
      exact List.perm_middle.symm
    · rw [if_neg c, List.append_nil] at e
      rw [if_neg c]
      exact ⟨as, by rw [e]; exact hal, by rw [e]; exact L2⟩
  · rintro H' ⟨as, hal, L'⟩
    rw [nints_len, List.take_of_length_le (Nat.le_refl _)] at hal L'
    exact hd as H' hal L'
theorem firstD_show {n : Nat} (hn : n < lim) {ms : List Nat} (hm : ∀ m ∈ ms, m < lim) : (firstD n ms).showable = true ∧ (firstD n ms).hasDict = false ∧ (firstD n ms).depth ≤ 64 ∧ (firstD n ms).leavesShort 800 = true ∧ (firstD n ms).bulk ≤ 10000 := by
  cases ms with
  | nil => exact ⟨rfl, rfl, Nat.zero_le _, show PyData.leavesShort 800 .none = true by decide +kernel, show PyData.bulk .none ≤ 10000 by decide +kernel⟩
  | cons m r =>
    obtain ⟨h1, h2, h3, h4, h5⟩ := ints_show [m, n - m] (by
      intro d hd
      have := hm m List.mem_cons_self
      simp only [List.mem_cons, List.not_mem_nil, or_false] at hd
      rcases hd with z | z <;> omega)
    refine ⟨h1, h2, ?_, h4, ?_⟩
    · show PyData.depthAll _ + 1 ≤ 64
      rw [show PyData.depthAll [PyData.int (m : Nat), PyData.int ((n - m : Nat) : Int)] = 0 from h3]
      decide
    · show PyData.bulkAll [PyData.int (m : Nat), PyData.int ((n - m : Nat) : Int)] ≤ 10000
      rw [show PyData.bulkAll [PyData.int (m : Nat), PyData.int ((n - m : Nat) : Int)] = 2 from h5]
      decide
theorem a_iR3 {ta : TA} {R : It → Hp → Prop} : iRng3 ta σ H R = ta σ H fun vs H1 => ∃ (i j c : Int) (n : Nat), vs = [.int i, .int j, .int c] ∧ RgC i j c n ∧ R (Itc i c n) H1 := rfl
/-- over a range by steps -/
theorem for_rc {lo c : Int} {n j : Nat} {tb : TS} (Pv : Nat → L2.St → Hp → Prop) (h0 : Pv 0 σ H)
    (hs : ∀ N : Nat → L2.St → Hp → Prop, (∀ i σ H, Pv i σ H → N i σ H) → ∀ (i : Nat) σ H, i < n → Pv i σ H → tb { D with nx := N (i + 1), ct := N (i + 1), bk := D.nx } (σ.set j (some (.int (lo + (i : Nat) * c)))) H) (hd : ∀ σ H, Pv n σ H → D.nx σ H) : ForG (Itc lo c n) (gName j) tb D σ H :=
  for_g walk_rangeC Pv h0 (fun _ _ _ _ _ => trivial) (fun i x σ H H' hi p y => by
    obtain ⟨e, y⟩ := y
    subst e
    subst y
    exact hs Pv (fun _ _ _ h => h) i σ _ hi p) hd
/-- over a list of naturals -/
theorem for_ln {a : Addr} {l : List Nat} {j : Nat} {tb : TS} (Pv : Nat → L2.St → Hp → Prop) (h0 : Pv 0 σ H) (hG : ∀ i σ H, i ≤ l.length → Pv i σ H → SqL K H a (nints l))
    (hs : ∀ N : Nat → L2.St → Hp → Prop, (∀ i σ H, Pv i σ H → N i σ H) → ∀ i (x : Nat) σ H, l[i]? = some x → Pv i σ H → tb { D with nx := N (i + 1), ct := N (i + 1), bk := D.nx } (σ.set j (some (.int (x : Nat)))) H) (hd : ∀ σ H, Pv l.length σ H → D.nx σ H) : ForG (Itl K a) (gName j) tb D σ H :=
  for_l (xs := nints l) Pv h0 (fun i σ H hi p => hG i σ H (by rw [nints_len] at hi; exact hi) p) (fun N hN i x σ H hx p => by
    obtain ⟨m, hm, rfl⟩ := nints_get hx
    exact hs N hN i m σ H hm p) (fun σ H p => hd σ H (by rw [nints_len] at p; exact p))
/-- the first i objects changed -/
def gro (i : Nat) (F : List (Addr × HO)) (g : HO → HO) : List (Addr × HO) := F.mapIdx fun k x => if k < i then (x.1, g x.2) else x
theorem gro_zero {F : List (Addr × HO)} {g : HO → HO} : gro 0 F g = F := by
  apply List.ext_getElem?
  intro k
  unfold gro
  rw [List.getElem?_mapIdx]
  cases F[k]? with
  | none => rfl
  | some x => simp
theorem gro_get {F : List (Addr × HO)} {g : HO → HO} {i : Nat} {x : Addr × HO} (h : F[i]? = some x) : (gro i F g)[i]? = some x := by
  unfold gro
  rw [List.getElem?_mapIdx, h]
  simp
theorem gro_succ {F : List (Addr × HO)} {g : HO → HO} {i : Nat} {a : Addr} {o : HO} (h : F[i]? = some (a, o)) : gro (i + 1) F g = (gro i F g).set i (a, g o) := by
  apply List.ext_getElem?
  intro k
  by_cases c : i = k
  · subst c
    rw [List.getElem?_set_self (lt_of_get (gro_get h))]
    unfold gro
    rw [List.getElem?_mapIdx, h]
    simp
  · rw [List.getElem?_set_ne c]
    unfold gro
    rw [List.getElem?_mapIdx, List.getElem?_mapIdx]
    cases F[k]? with
    | none => rfl
    | some x =>
      show some (if k < i + 1 then (x.1, g x.2) else x) = some (if k < i then (x.1, g x.2) else x)
      by_cases c2 : k < i
      · rw [if_pos (by omega), if_pos c2]
      · rw [if_neg (by omega), if_neg c2]
theorem gro_all {F : List (Addr × HO)} {g : HO → HO} {i : Nat} (h : F.length ≤ i) : gro i F g = F.map fun x => (x.1, g x.2) := by
  apply List.ext_getElem?
  intro k
  unfold gro
  rw [List.getElem?_mapIdx, List.getElem?_map]
  cases e : F[k]? with
  | none => rfl
  | some x =>
    show some (if k < i then (x.1, g x.2) else x) = some (x.1, g x.2)
    rw [if_pos (by have := lt_of_get e; omega)]
theorem gro_len {F : List (Addr × HO)} {g : HO → HO} {i : Nat} : (gro i F g).length = F.length := by
  unfold gro
  rw [List.length_mapIdx]
def addZ : HO → HO
  | .lst xs => .lst (xs ++ [.int 0])
  | o => o
theorem prF_at {as : List Addr} {ms : List Nat} {n k m : Nat} {w : Addr} (h1 : as[k]? = some w) (h2 : ms[k]? = some m) : (prF as ms n)[k]? = some (w, HO.lst [.int (m : Nat), .int ((n - m : Nat) : Int)]) := by
  unfold prF
  rw [List.getElem?_map, (List.getElem?_zip_eq_some (z := (w, m))).mpr ⟨h1, h2⟩]
  rfl
theorem prF_len {as : List Addr} {ms : List Nat} {n : Nat} (h : as.length = ms.length) : (prF as ms n).length = as.length := by
  unfold prF
  rw [List.length_map, List.length_zip, h, Nat.min_self]
end
end Mi

/-! lists of numbers in their order -/
namespace Mi
open PySem PySem.Spec PyProof.Rows L2
/-- no less, as lists are ordered -/
def geL : List Int → List Int → Bool
  | [], [] => true
  | [], _ :: _ => false
  | _ :: _, [] => true
  | x :: xs, y :: ys => if x = y then geL xs ys else decide (x ≥ y)
section
open PySem.SeqAt AutoSeq1 MeetsSeq MeetsSeq2 MeetsSeq3 SeqRoads2
theorem ints_get : ∀ {us : List Value} {ns : List Int} {i : Nat}, IntsAre us ns → us.length = ns.length ∧ ∀ u, us[i]? = some u → ∃ k t, ns[i]? = some k ∧ u = Value.int k t
  | _, _, _, .nil => ⟨rfl, fun u h => by simp at h⟩
  | _, _, 0, .cons n t r => ⟨by rw [List.length_cons, List.length_cons, (ints_get (i := 0) r).1], fun u h => ⟨n, t, rfl, by simpa using h.symm⟩⟩
  | _, _, i + 1, .cons n t r => ⟨by rw [List.length_cons, List.length_cons, (ints_get (i := 0) r).1], fun u h => by
    rw [List.getElem?_cons_succ] at h ⊢
    exact (ints_get (i := i) r).2 u h⟩
theorem drop_at {α : Type} {l : List α} {i : Nat} {x : α} (h : l[i]? = some x) : l.drop i = x :: l.drop (i + 1) := by
  obtain ⟨hi, e⟩ := List.getElem?_eq_some_iff.mp h
  rw [List.drop_eq_getElem_cons hi, e]
theorem ge_turns (l b : Addr) (us vs : Array Value) (n m : Nat) (xs ys : List Int) (hx : IntsAre us.toList xs) (hy : IntsAre vs.toList ys) (k : Nat) : ∀ i : Nat, us.size - i = k → i ≤ us.size → i ≤ vs.size → Meets (Builtin.«list.__eq__.loop» ⟨[.ref l, .ref b, rawInt i, rawInt 5], []⟩)
    (fun A R s => s.heap.get? l = some { cls := .type "list", data := .seq us n } ∧ s.heap.get? b = some { cls := .type "list", data := .seq vs m } ∧ R (.ok (.ret (.bool (geL (xs.drop i) (ys.drop i))))) s) := by
  have lx : us.size = xs.length := by rw [← (ints_get (i := 0) hx).1, Array.length_toList]
  have ly : vs.size = ys.length := by rw [← (ints_get (i := 0) hy).1, Array.length_toList]
  have ending : ∀ i, i ≤ us.size → i ≤ vs.size → (i = us.size ∨ i = vs.size) → geL (xs.drop i) (ys.drop i) = decide (us.size ≥ vs.size) := by
    intro i h1 h2 h3
    by_cases c1 : i = us.size
    · rw [List.drop_of_length_le (l := xs) (by omega)]
      by_cases c2 : i = vs.size
      · rw [List.drop_of_length_le (by omega)]
        exact (decide_eq_true (by omega)).symm
      · obtain ⟨y, hy⟩ : ∃ y, ys[i]? = some y := ⟨_, List.getElem?_eq_getElem (by omega)⟩
        rw [drop_at hy]
        exact (decide_eq_false (by omega)).symm
    · obtain ⟨x, hx⟩ : ∃ x, xs[i]? = some x := ⟨_, List.getElem?_eq_getElem (by omega)⟩
      rw [List.drop_of_length_le (l := ys) (by omega), drop_at hx]
      exact (decide_eq_true (by omega)).symm
  induction k with
  | zero =>
    intro i hk hi hi2 prog w A R s h
    have en := ending i hi hi2 (Or.inl (by omega))
    obtain ⟨hp, g, d, tk, os⟩ := s
    obtain ⟨h1, h2, h⟩ := h
    wp_walk using wpAny_loadPart' h1, wpAny_loadPart' h2
    have no : us[((i : Nat) : Int).toNat]? = none := by simp; omega
    rw [no]
    wp_walk using wpAny_loadPart' h1, wpAny_loadPart' h2
    rw [en] at h
    exact h
  | succ k ih =>
    intro i hk hi hi2 prog w A R s h
    obtain ⟨hp, g, d, tk, os⟩ := s
    obtain ⟨h1, h2, h⟩ := h
    wp_walk using wpAny_loadPart' h1, wpAny_loadPart' h2
    have lt : i < us.size := by omega
    have g1 : us[((i : Nat) : Int).toNat]? = some us[i] := by simp [lt]
    obtain ⟨x, t, ex, ux⟩ := (ints_get (i := i) hx).2 us[i] (by simp [lt])
    rw [g1]
    by_cases c : i < vs.size
    · have g2 : vs[((i : Nat) : Int).toNat]? = some vs[i] := by simp [c]
      obtain ⟨y, t2, ey, uy⟩ := (ints_get (i := i) hy).2 vs[i] (by simp [c])
      rw [g2, ux, uy]
      rw [drop_at ex, drop_at ey] at h
      refine wpAny_bind (EqAt.int_int x t y t2 prog w _ _ ?_)
      by_cases e : x = y
      · have h : R (.ok (.ret (.bool (geL (xs.drop (i + 1)) (ys.drop (i + 1)))))) { heap := hp, gens := g, drawn := d, toks := tk, os := os } := by
          have : geL (x :: xs.drop (i + 1)) (y :: ys.drop (i + 1)) = geL (xs.drop (i + 1)) (ys.drop (i + 1)) := if_pos e
          rw [this] at h
          exact h
        rw [beq_iff_eq.mpr e]
        wp_walk
        rw [show ((i : Int) + 1) = ((i + 1 : Nat) : Int) by omega]
        exact ⟨plainId_quiet plain_eq_loop _, codeAny_builtin entry_eq_loop (by
          rw [Around.under_plainId plain_eq_loop _]
          exact ih (i + 1) (by omega) (by omega) (by omega) prog w A R _ ⟨h1, h2, h⟩)⟩
      · have : geL (x :: xs.drop (i + 1)) (y :: ys.drop (i + 1)) = decide (x ≥ y) := if_neg e
        rw [this] at h
        rw [beq_eq_false_iff_ne.mpr e]
        wp_walk using wpAny_loadPart' h1, wpAny_loadPart' h2
        rw [g1, g2, ux, uy]
        show wpAny _ _ (richCompare .GtE (.int x t) (.int y t2) >>= fun r => ret r) _ _ _
        refine wpAny_bind (richCompare_gives (op := .GtE) (typeIs_int _ x t) (typeIs_int _ y t2) F.slot_int_ge F.entry_int_ge (F.args_int_ge_2 _ _) (gives_int_ge x y t t2) (fun z => nomatch z) ?_)
        exact wpAny_pure h
    · have no : vs[((i : Nat) : Int).toNat]? = none := by simp; omega
      have en := ending i hi hi2 (Or.inr (by omega))
      rw [no]
      wp_walk using wpAny_loadPart' h1, wpAny_loadPart' h2
      rw [en] at h
      exact h
theorem ge_list (l b : Addr) (us vs : Array Value) (n m : Nat) (xs ys : List Int) (hx : IntsAre us.toList xs) (hy : IntsAre vs.toList ys) : Meets (Builtin.«list.__ge__» ⟨[.ref l, .ref b], []⟩)
    (fun A R s => s.heap.get? l = some { cls := .type "list", data := .seq us n } ∧ s.heap.get? b = some { cls := .type "list", data := .seq vs m } ∧ R (.ok (.ret (.bool (geL xs ys)))) s) := by
  intro prog w A R s h
  obtain ⟨hp, g, d, tk, os⟩ := s
  obtain ⟨h1, h2, h⟩ := h
  have sub := AutoSeq1.sub_list_list
  wp_walk using wpAny_loadPart' h1, wpAny_loadPart' h2
  exact ⟨plainId_quiet plain_eq_loop _, codeAny_builtin entry_eq_loop (by
    rw [Around.under_plainId plain_eq_loop _]
    exact ge_turns l b us vs n m xs ys hx hy _ 0 rfl (Nat.zero_le _) (Nat.zero_le _) prog w A R _ ⟨h1, h2, h⟩)⟩
end
/-- xs >= ys of lists of ints that were laid in the run -/
def rGeLI : R2 := fun x y H Q => ∃ (a b : Addr) (ns ms : List Int), x = .ref a ∧ y = .ref b ∧ H a = some (.lst (ns.map V.int)) ∧ H b = some (.lst (ms.map V.int)) ∧ Q (.bl (geL ns ms)) H
theorem op_geLI {X : Cx} {k : Nat} (hr : Rm k X.A) : OpR X (compareOp .GtE) rGeLI := by
  intro pins s σ H x y v u Q I rx ry h
  obtain ⟨a, b, ns, ms, rfl, rfl, ha, hb, q⟩ := h
  cases (show v = Value.ref a from rx)
  cases (show u = Value.ref b from ry)
  obtain ⟨z, us, n, r, hl, ea⟩ := I.lstM ha
  obtain ⟨z2, us2, n2, r2, hl2, eb⟩ := I.lstM hb
  have g := ge_list a b us.toArray us2.toArray n n2 ns ms (by rw [List.toList_toArray]; exact Vals.ints r) (by rw [List.toList_toArray]; exact Vals.ints r2)
  show wpAny _ _ (richCompare .GtE (.ref a) (.ref b)) _ _ _
  exact richCompare_meets_room (op := .GtE) ⟨_, ea, rfl⟩ ⟨_, eb, rfl⟩ F.slot_list_ge F.entry_list_ge (F.args_list_ge_2 _ _) g ⟨ea, eb, (show Value.bool (geL ns ms) ≠ Value.notImplemented ∧ EP X pins σ Q (.bool (geL ns ms)) s from ⟨(fun z => nomatch z), ⟨.bl _, H, I, rfl, q⟩⟩)⟩ (by have := hr.rm.un; omega)
theorem b_geLI {x y : V} {H : Hp} {Q : VK} : rGeLI x y H Q = ∃ (a b : Addr) (ns ms : List Int), x = .ref a ∧ y = .ref b ∧ H a = some (.lst (ns.map V.int)) ∧ H b = some (.lst (ms.map V.int)) ∧ Q (.bl (geL ns ms)) H := rfl
end Mi

/-! more words of the readings -/
namespace Mi
open PySem PySem.Spec PyProof.Rows L2
section
variable {K : PySem.W.Frag} {H : Hp} {Q : VK} {σ : L2.St} {te tf tx : TE} {D : Ends} {x v : V} {xs : List V}
theorem b_popAt : rPopAt x xs H Q = ∃ l ys i k y, x = .ref l ∧ xs = [.int i] ∧ H l = some (.lst ys) ∧ -(2 ^ 63) ≤ i ∧ i < 2 ^ 63 ∧ seqIndex? i ys.length = some k ∧ ys[k]? = some y ∧ Q y (upd H l (.lst (ys.eraseIdx k))) := rfl
theorem b_abs {i : Int} : rAbs [.int i] H Q = Q (.int (if i < 0 then -i else i)) H := propext ⟨fun ⟨j, e, q⟩ => by cases e; exact q, fun q => ⟨i, rfl, q⟩⟩
theorem a_glst {n : Nat} {gs : TGs} {J : L2.St → Hp → Prop} : gLst K n gs v σ H J = ∃ a xs, v = .ref a ∧ SqL K H a xs ∧ xs.length = n ∧ gs xs σ H J := rfl
theorem a_dput : sDPut te tf tx D σ H = tx σ H fun v H1 => te σ H1 fun x H2 => tf σ H2 fun y H3 => ∃ a H4, x = .ref a ∧ DPut H3 a y v H4 ∧ D.nx σ H4 := rfl
theorem a_dnewK : tDNewK σ H Q = ∀ p, H p = none → Q (.ref p) (upd H p (.dK [])) := rfl
theorem a_dnewT : tDNewT σ H Q = ∀ p, H p = none → Q (.ref p) (upd H p (.dT [])) := rfl
theorem b_sortI : rSortedI K xs H Q = ∃ (a : Addr) (ns : List Int), xs = [V.ref a] ∧ SqL K H a (ns.map V.int) ∧ ∀ (ns' : List Int) (p : Addr), ns'.Perm ns → ns'.Pairwise (· ≤ ·) → H p = none → Q (.ref p) (upd H p (.lst (ns'.map V.int))) := rfl
theorem b_extend {vs : List V} : rExtend x vs H Q = rExtend x vs H Q := rfl
end
/-- whole numbers from what is left by a divisor -/
theorem emod_nat (x : Int) (m : Nat) (hm : 0 < m) : ∃ s : Nat, s < m ∧ x % (m : Int) = (s : Int) := by
  have h1 := Int.emod_nonneg x (b := (m : Int)) (by omega)
  have h2 := Int.emod_lt_of_pos x (b := (m : Int)) (by omega)
  exact ⟨(x % (m : Int)).toNat, by omega, by omega⟩
end Mi

/-! a list of any things, and the empty one -/
namespace Mi
open PySem PySem.Spec PyProof.Rows L2
def rEqNil (K : PySem.W.Frag) (neg : Bool) : R2 := fun x y H Q => ∃ (a b : Addr) (xs : List V), x = .ref a ∧ y = .ref b ∧ SqL K H a xs ∧ SqL K H b [] ∧ Q (.bl (if neg then !xs.isEmpty else xs.isEmpty)) H
section
variable {X : Cx} {k : Nat}
theorem op_eqNil (hr : Rm k X.A) : OpR X (compareOp .Eq) (rEqNil X.K false) := by
  intro pins s σ H x y v u Q I rx ry h
  obtain ⟨a, b, xs, rfl, rfl, h1, h2, q⟩ := h
  cases (show v = Value.ref a from rx)
  cases (show u = Value.ref b from ry)
  obtain ⟨its, rv, pl, _⟩ := I.list h1
  obtain ⟨its2, rv2, pl2, _⟩ := I.list h2
  cases rv2
  have hu : X.A.units < cLine := Nat.lt_of_le_of_lt (Nat.le_add_right _ 64) (hu64 hr)
  cases xs with
  | nil =>
    cases rv
    exact SeqAt.eq_listAt (e := fun _ => true) pl.isList pl2.isList rfl hu (fun j hj => absurd hj (Nat.not_lt_zero j)) ⟨.bl true, H, I, rfl, q⟩
  | cons z zs =>
    cases rv with
    | cons r rr => exact SeqAt.eq_list_lengthsAt pl.isList pl2.isList rfl hu ⟨.bl false, H, I, rfl, q⟩
theorem op_neNil (hr : Rm k X.A) : OpR X (compareOp .NotEq) (rEqNil X.K true) := by
  intro pins s σ H x y v u Q I rx ry h
  obtain ⟨a, b, xs, rfl, rfl, h1, h2, q⟩ := h
  cases (show v = Value.ref a from rx)
  cases (show u = Value.ref b from ry)
  obtain ⟨its, rv, pl, _⟩ := I.list h1
  obtain ⟨its2, rv2, pl2, _⟩ := I.list h2
  cases rv2
  have hu : X.A.units < cLine := Nat.lt_of_le_of_lt (Nat.le_add_right _ 64) (hu64 hr)
  cases xs with
  | nil =>
    cases rv
    exact SeqAt.RcNeAt.lists (e := fun _ => true) pl.isList pl2.isList rfl hu (fun j hj => absurd hj (Nat.not_lt_zero j)) _ _ _ _ ⟨.bl false, H, I, rfl, q⟩
  | cons z zs =>
    cases rv with
    | cons r rr => exact SeqAt.RcNeAt.lists_lengths pl.isList pl2.isList rfl hu _ _ _ _ ⟨.bl true, H, I, rfl, q⟩
end
section
variable {K : PySem.W.Frag} {x y : V} {H : Hp} {Q : VK}
theorem b_eqNil0 : rEqNil K false x y H Q = ∃ (a b : Addr) (xs : List V), x = .ref a ∧ y = .ref b ∧ SqL K H a xs ∧ SqL K H b [] ∧ Q (.bl xs.isEmpty) H := rfl
theorem b_eqNil1 : rEqNil K true x y H Q = ∃ (a b : Addr) (xs : List V), x = .ref a ∧ y = .ref b ∧ SqL K H a xs ∧ SqL K H b [] ∧ Q (.bl (!xs.isEmpty)) H := rfl
end
end Mi

/-! set(xs) of a list of whole numbers, then sorted -/
namespace Mi
open PySem PySem.Spec PyProof.Rows L2
section
variable {P : Program} {w : World} {A : Around} {E : Value → Shared → Prop} {s : Shared}
abbrev set0 (w : World) : Obj := { cls := .type "set", dict := none, data := .set #[] 0 (.fresh 0 0 (!w.params.followText "set-order")) }
/-- the new set takes the list's numbers -/
theorem set_init_l {S l : Addr} {items : Array Value} {ns : List Int} {R : Result → Shared → Prop} (hh : A.handled = none) (hS : s.heap.get? S = some (set0 w)) (hl : s.heap.IsList l items) (hi : IntsAre items.toList ns) (hb : ns.length + 1 < scanBound)
    (q : ∀ (h' : Heap) (tk c : Nat), SetR w h' S (fun j => decide (j ∈ ns)) c → c ≤ ns.length → (∀ b o, b ≠ S → s.heap.get? b = some o → h'.get? b = some o) → R (.ok (.ret .none)) { s with heap := h', toks := tk }) :
    codeAny (model P w) A (.call (.builtin "set.__init__") ⟨[.ref S, .ref l], []⟩) R s := by
  have hn : items.size = ns.length := by
    have z := IntsAre.length hi
    rwa [Array.length_toList] at z
  have hlS : l ≠ S := by
    rintro rfl
    obtain ⟨o, ho, hc, _⟩ := hl
    rw [hS] at ho
    cases ho
    exact absurd (show Value.type "set" = Value.type "list" from hc) (by decide)
  have h1 : l < s.heap.objs.size := by
    obtain ⟨o, ho, _⟩ := hl
    exact Heap.lt_size ho
  have h2 : S < s.heap.objs.size := Heap.lt_size hS
  obtain ⟨⟨lc, ld, ldata, lsl⟩, ho, hc, k, hd⟩ := id hl
  simp only at hc hd
  subst hc hd
  refine codeAny_call_builtin F.called_set.init.plain F.entry_set_init (check_set_init_1 ⟨_, hS, rfl⟩ ?_)
  have g1 := F.sub_list_set
  have g2 := F.sub_list_frozenset
  have g3 : (Value.type "list" == Value.type "dict") = false := by decide
  unfold Builtin.«set.__init__» noKeywords Builtin.Frozenset.updateFrom
  generalize hPI : pyIter = PI
  wp_walk
  subst hPI
  refine wpAny_pyIter_list hl (wpAny_bind (wpAny_runValue ?_))
  have hI : s.heap.objs.size ∉ ([S] : List Addr) := by
    intro z
    exact absurd (List.mem_singleton.mp z) (Nat.ne_of_gt h2)
  refine set_update_ints ((Walks.list (by simp [hh]) s.heap.objs.size l (Nat.ne_of_lt h1) items).toS) S ?_ ns hn hb ?_ items.size 0 _ (Nat.sub_zero _) (Nat.zero_le _) ⟨⟨_, Heap.get?_push_size _ rfl, rfl, rfl⟩, hl.push _⟩ ⟨0, Nat.le_refl _, setR_new_at (Heap.get?_push_of_some _ hS)⟩ fun s' c hm hc2 hS2 => ?_
  · intro z
    rcases List.mem_cons.mp z with z | z
    · exact absurd z (Nat.ne_of_lt h2)
    · exact hlS (List.mem_singleton.mp z).symm
  · intro i v hv
    obtain ⟨t, e⟩ := IntsAre.int_at hi i v (by rw [Array.getElem?_toList]; exact hv)
    have hlt : i < ns.length := by
      rw [← hn]
      exact (Array.getElem?_eq_some_iff.mp hv).1
    refine ⟨ns[i], t, List.getElem?_eq_getElem hlt, ?_⟩
    rw [e, List.getD_eq_getElem?_getD, List.getElem?_eq_getElem hlt]
    rfl
  · obtain ⟨h', g', d', tk', os'⟩ := s'
    obtain rfl : g' = s.gens := hm.gens
    obtain rfl : d' = s.drawn := hm.drawn
    obtain rfl : os' = s.os := hm.os
    refine wpAny_pure (wpAny_pure (q h' tk' c hS2 (by rw [← hn]; exact hc2) fun b o hb2 e => ?_))
    refine hm.heap b o (fun z => ?_) (Heap.get?_push_of_some _ e)
    rcases List.mem_cons.mp z with z | z
    · exact hb2 z
    · exact absurd (List.mem_singleton.mp z) (Nat.ne_of_lt (Heap.lt_size e))
/-- set(xs) -/
theorem set_of_l {l : Addr} {items : Array Value} {ns : List Int} {Q : Value → Shared → Prop} (hh : A.handled = none) (hl : s.heap.IsList l items) (hi : IntsAre items.toList ns) (hb : ns.length + 1 < scanBound)
    (q : ∀ (h' : Heap) (tk c : Nat), SetR w h' s.heap.objs.size (fun j => decide (j ∈ ns)) c → c ≤ ns.length → (∀ b o, s.heap.get? b = some o → h'.get? b = some o) → Q (.ref s.heap.objs.size) { s with heap := h', toks := tk }) :
    wpAny (model P w) A (call (.type "set") [.ref l]) Q E s := by
  obtain ⟨c, tl, hmro⟩ := F.called_set.mro
  have g1 := F.called_set.made
  have g2 := F.called_set.sub
  have g3 := F.called_set.notType
  have g4 := F.called_set.canCreate
  have g5 := F.typeCall_set_1 (.ref l)
  have new : (s.heap.push (set0 w)).get? s.heap.objs.size = some (set0 w) := Heap.get?_push_size _ rfl
  refine wpAny_call (codeAny_of_tree (wpAny_pure ⟨Code.quiet_builtin _ (by decide +kernel), codeAny_builtin F.entry_type_call ?_⟩))
  rw [Around.under_plain (weight_type_call_type "set" [.ref l] []) rfl]
  repeat (any_goals (first | assumption | wp_step))
  have made := code_set_led1 (P := P) (w := w) (A := A.in1) (s := s) (.ref l) (E := E) (Q₁ := fun v s1 => v = .ref s.heap.objs.size ∧ s1 = { s with heap := s.heap.push (set0 w) }) ⟨rfl, rfl⟩
  refine codeAny_mono made ?_
  rintro (e | f) s1 z
  · exact z
  cases f with
  | ret v =>
    obtain ⟨rfl, rfl⟩ := z
    have t : Shared.TypeIs { s with heap := s.heap.push (set0 w) } (.ref s.heap.objs.size) "set" := ⟨_, new, rfl⟩
    have g6 := F.called_set.init.lookup
    have g7 := F.called_set.init.bind (.ref s.heap.objs.size)
    repeat (any_goals (first | assumption | wp_step))
    refine set_init_l (s := { s with heap := s.heap.push (set0 w) }) (by simp [hh]) new (hl.push _) hi hb fun h' tk c R1 hc k => ?_
    have k2 : ∀ b o, s.heap.get? b = some o → h'.get? b = some o := fun b o e => k b o (Nat.ne_of_lt (Heap.lt_size e)) (Heap.get?_push_of_some _ e)
    repeat (any_goals (first | assumption | wp_step))
    exact q h' tk c R1 hc k2
  | _ => exact z.elim
end
section
variable {X : Cx}
/-- set(xs), xs a list of whole numbers -/
def rSetI (K : PySem.W.Frag) (w : World) : List V → Hp → VK → Prop := fun vs H Q => ∃ (a : Addr) (ns : List Int), vs = [.ref a] ∧ SqL K H a (ns.map V.int) ∧ ns.length ≤ 1000 ∧
  ∀ p c, H p = none → c ≤ ns.length → Q (.ref p) (upd H p (SetO w p (fun j => decide (j ∈ ns)) c))
theorem cr_setI (hc : X.calm = true) : CallR X (.type "set") (rSetI X.K X.w) := by
  intro pins s σ H vs us Q I r h
  obtain ⟨a, ns, rfl, hS, hn, q⟩ := h
  rw [Vals.ref1 r]
  obtain ⟨its, rv, pl, hz⟩ := I.list hS
  refine set_of_l (I.ok.hd hc) pl.isList (ns := ns) (by simpa using rv.ints) (by unfold scanBound; omega) fun h' tk c R1 hcn k => ?_
  exact ⟨.ref _, _, I.laid (t' := tk) k (Nat.le_refl _) (setO_new R1), rfl, q _ c (I.hok.fresh (Nat.le_refl _)) hcn⟩
/-- what holds behind an expression, weakened -/
theorem pe_weak {e : Expr} {te : TE} (he : PE X e te) : PE X e (fun σ H Q => ∃ R : VK, te σ H R ∧ ∀ x H1, R x H1 → Q x H1) :=
  ⟨fun pins s σ H Q I ⟨R, h, hw⟩ => thn (he.run pins s σ H R I h) fun v s1 ⟨x, H1, I1, r1, q1⟩ => ⟨x, H1, I1, r1, hw x H1 q1⟩⟩
/-- sorted(set(xs)) -/
def tSortSet (K : PySem.W.Frag) (te : TE) : TE := fun σ H Q => te σ H fun x H1 => ∃ (a : Addr) (ns : List Int), x = .ref a ∧ SqL K H1 a (ns.map V.int) ∧ ns.length < 64 ∧
  ∀ (ms : List Int) (S p : Addr) (o : HO), ms.Pairwise (· < ·) → (∀ k : Int, k ∈ ms ↔ k ∈ ns) → ms.length ≤ ns.length → H1 S = none → upd H1 S o p = none → Q (.ref p) (upd (upd H1 S o) p (.lst (ms.map V.int)))
theorem pe_sortSet {a : Expr} {ta : TE} {p p2 pos pos2 : Pos} (hc : X.calm = true) (hg : Gl X "sorted") (hm : X.mg "sorted" = none) (hg2 : Gl X "set") (hm2 : X.mg "set" = none) (ha : PE X a ta)
    (na : starEach [a] X.env = (false, eval a X.env) :: starEach [] X.env := by rfl) : PE X (.Call (.Name "sorted" p) [.Call (.Name "set" p2) [a] [] pos2] [] pos) (tSortSet X.K ta) := by
  refine ⟨fun pins s σ H Q I h => ?_⟩
  have in1 := pe_callTy (x := "set") (p := p2) (pos := pos2) (cr_setI hc) hg2 hm2 (by decide +kernel) (pa_cons (pe_weak ha) pa_nil na) (by decide) (by decide) na
  refine (pe_callB (cr_sortedSet hc) hg hm (by decide +kernel) (pa_cons in1 pa_nil)).run pins s σ H Q I ?_
  refine ⟨_, h, ?_⟩
  rintro x H1 ⟨l, ns, rfl, hS, hn, q⟩
  refine ⟨l, ns, rfl, hS, by omega, fun p c hp hc => ?_⟩
  refine ⟨p, _, c, rfl, upd_same, by omega, fun ms p2 h1 h2 h3 hp2 => ?_⟩
  exact q ms p p2 _ h1 (fun k => by rw [h2, decide_eq_true_eq]) (by omega) hp hp2
theorem a_sortSet {K : PySem.W.Frag} {te : TE} {σ : L2.St} {H : Hp} {Q : VK} : tSortSet K te σ H Q = te σ H fun x H1 => ∃ (a : Addr) (ns : List Int), x = .ref a ∧ SqL K H1 a (ns.map V.int) ∧ ns.length < 64 ∧
  ∀ (ms : List Int) (S p : Addr) (o : HO), ms.Pairwise (· < ·) → (∀ k : Int, k ∈ ms ↔ k ∈ ns) → ms.length ≤ ns.length → H1 S = none → upd H1 S o p = none → Q (.ref p) (upd (upd H1 S o) p (.lst (ms.map V.int))) := rfl
end
end Mi

/-! comprehensions, more of them -/
namespace Mi
open PySem PySem.Spec PyProof.Rows L2
theorem filt_all {α : Type} {l : List α} : l.filter (fun _ => true) = l := List.filter_eq_self.mpr fun _ _ => rfl
section
variable {K : PySem.W.Frag} {C : Str → Addr} {H B : Hp} {Q : VK} {E : XK} {F G : List (Addr × HO)} {D : Ends} {σ : L2.St} {tt : TT} {te : TE} {vs : List Nat}
/-- the list at P, behind new objects, gets an item -/
theorem Led.item {P : Addr} {acc : List V} {v : V} {G' : List (Addr × HO)} (L : Led B (G' ++ ((P, .lst acc) :: (G ++ F))) H) : H P = some (.lst acc) ∧ Led B ((P, .lst (acc ++ [v])) :: ((G' ++ G) ++ F)) (upd H P (.lst (acc ++ [v]))) := by
  have hi : (G' ++ ((P, HO.lst acc) :: (G ++ F)))[G'.length]? = some (P, .lst acc) := by
    rw [List.getElem?_append_right (Nat.le_refl _), Nat.sub_self]
    rfl
  refine ⟨L.get _ hi, ?_⟩
  have L2 := L.put (o' := .lst (acc ++ [v])) _ hi
  rw [List.set_append_right _ _ (Nat.le_refl _), Nat.sub_self, List.set_cons_zero] at L2
  refine L2.perm ?_
  rw [List.append_assoc]
  exact List.perm_middle
/-- [made of x for x in xs], over naturals -/
theorem lc_mk {a : Addr} {l : List Nat} {j : Nat} {P : Addr} {Qd : Hp → Prop} (L : Led B F H) (hP : H P = none) (hS : ∀ F' H, Led B (F' ++ F) H → SqL K H a (nints l)) (R : Nat → List V → List (Addr × HO) → Prop) (h0 : R 0 [] []) (hR : ∀ i acc G, R i acc G → acc.length ≤ i) (hl : l.length < sizeLine)
    (hw : ∀ x, wipe ((wipe σ vs).set j x) vs = wipe σ vs)
    (he : ∀ i x acc G, l[i]? = some x → R i acc G → ∀ F' H Rr, Led B (F' ++ F) H → (∀ v G' H', R (i + 1) (acc ++ [v]) (G' ++ G) → Led B (G' ++ (F' ++ F)) H' → Rr v H') → te ((wipe σ vs).set j (some (.int (x : Nat)))) H Rr)
    (hd : ∀ acc G H', R l.length acc G → Led B ((P, .lst acc) :: (G ++ F)) H' → Qd H') : LcG (Itl K a) (gName j) tYes te vs σ P Qd H := by
  refine lc_g walk_list (fun i H' => ∃ acc G, R i acc G ∧ Led B ((P, .lst acc) :: (G ++ F)) H') ⟨[], [], h0, L.new hP⟩ (fun i H' _ ⟨acc, G, _, L'⟩ => hS ((P, .lst acc) :: G) _ L') ?_ ?_
  · rintro i x H1 H2 hi ⟨acc, G, hr, L1⟩ y
    obtain ⟨e, y⟩ := y
    subst e
    obtain ⟨m, hm, rfl⟩ := nints_get y
    refine ⟨hw _, ?_⟩
    rw [a_yes, if_pos rfl]
    refine he i m acc G hm hr ((P, .lst acc) :: G) _ _ L1 fun v G' H3 hr3 L3 => ?_
    obtain ⟨h1, h2⟩ := Led.item (v := v) L3
    have := hR i acc G hr
    rw [nints_len] at hi
    exact ⟨acc, h1, by omega, acc ++ [v], G' ++ G, hr3, h2⟩
  · rintro H' ⟨acc, G, hr, L'⟩
    rw [nints_len] at hr
    exact hd acc G H' hr L'
/-- [made of x, y for x, y in pairs] -/
theorem lc_mkp {a : Addr} {as : List Addr} {xs ys : List V} {j k : Nat} {P : Addr} {Qd : Hp → Prop} (L : Led B F H) (hP : H P = none) (hl1 : xs.length = as.length) (hl2 : ys.length = as.length) (hS : ∀ F' H, Led B (F' ++ F) H → SqL K H a (as.map V.ref) ∧ ∀ (i : Nat) b x y, as[i]? = some b → xs[i]? = some x → ys[i]? = some y → SqT K H b [x, y])
    (R : Nat → List V → List (Addr × HO) → Prop) (h0 : R 0 [] []) (hR : ∀ i acc G, R i acc G → acc.length ≤ i) (hl : as.length < sizeLine)
    (hw : ∀ x y, wipe (((wipe σ vs).set j x).set k y) vs = wipe σ vs) (p : Nat → Bool)
    (ht : ∀ i x y, xs[i]? = some x → ys[i]? = some y → ∀ F' H Rr, Led B (F' ++ F) H → (∀ F2 H', Led B (F2 ++ (F' ++ F)) H' → Rr (p i) H') → tt (((wipe σ vs).set j (some x)).set k (some y)) H Rr)
    (hn : ∀ i acc G, R i acc G → p i = false → R (i + 1) acc G)
    (he : ∀ i x y acc G, xs[i]? = some x → ys[i]? = some y → p i = true → R i acc G → ∀ F' H Rr, Led B (F' ++ F) H → (∀ v G' H', R (i + 1) (acc ++ [v]) (G' ++ G) → Led B (G' ++ (F' ++ F)) H' → Rr v H') → te (((wipe σ vs).set j (some x)).set k (some y)) H Rr)
    (hd : ∀ acc G H', R as.length acc G → Led B ((P, .lst acc) :: (G ++ F)) H' → Qd H') : LcG (Itl K a) (g2 K j k) tt te vs σ P Qd H := by
  refine lc_g walk_list (fun i H' => ∃ acc G, R i acc G ∧ Led B ((P, .lst acc) :: (G ++ F)) H') ⟨[], [], h0, L.new hP⟩ (fun i H' _ ⟨acc, G, _, L'⟩ => (hS ((P, .lst acc) :: G) _ L').1) ?_ ?_
  · rintro i x H1 H2 hi ⟨acc, G, hr, L1⟩ y
    obtain ⟨e, y⟩ := y
    subst e
    rw [List.length_map] at hi
    rw [List.getElem?_map, List.getElem?_eq_getElem hi] at y
    cases y
    have h1 : xs[i]? = some (xs[i]'(by omega)) := List.getElem?_eq_getElem _
    have h2 : ys[i]? = some (ys[i]'(by omega)) := List.getElem?_eq_getElem _
    refine ⟨as[i], _, rfl, (hS ((P, .lst acc) :: G) _ L1).2 i _ _ _ (List.getElem?_eq_getElem hi) h1 h2, rfl, _, _, rfl, _, _, rfl, rfl, hw _ _, ?_⟩
    have hrl := hR i acc G hr
    refine ht i _ _ h1 h2 ((P, .lst acc) :: G) _ _ L1 fun F2 H3 L3 => ?_
    have L3 : Led B ((P, .lst acc) :: (G ++ F)) H3 := L3.sub (List.sublist_append_right _ _)
    cases hp : p i with
    | true =>
      rw [if_pos rfl]
      refine he i _ _ acc G h1 h2 hp hr ((P, .lst acc) :: G) _ _ L3 fun v G' H4 hr4 L4 => ?_
      obtain ⟨g1, g2⟩ := Led.item (v := v) L4
      exact ⟨acc, g1, by omega, acc ++ [v], G' ++ G, hr4, g2⟩
    | false =>
      rw [if_neg Bool.false_ne_true]
      exact ⟨acc, G, hn i acc G hr hp, L3⟩
  · rintro H' ⟨acc, G, hr, L'⟩
    rw [List.length_map] at hr
    exact hd acc G H' hr L'
end
end Mi

/-! mirrored in several bases -/
namespace Mi
def alM (bs : List Nat) (x : Nat) : Bool := bs.all fun b => mir b x
/-- all to N that are mirrored in all the bases -/
def inA (bs : List Nat) (N : Nat) : List Nat := (List.range (N + 1)).filter (alM bs)
def OkB (bs : List Nat) : Prop := 1 ≤ bs.length ∧ bs.length ≤ 5 ∧ (∀ b ∈ bs, 2 ≤ b ∧ b ≤ 36) ∧ bs.Pairwise (· < ·)
theorem rf_same {p : Nat → Bool} {k : Nat} : ∀ {m : Nat}, k ≤ m → (∀ x, k ≤ x → x < m → p x = false) → (List.range m).filter p = (List.range k).filter p
  | 0, h, _ => by rw [Nat.le_zero.mp h]
  | m + 1, h, hx => by
    rcases Nat.lt_or_ge m k with z | z
    · rw [show k = m + 1 by omega]
    · rw [List.range_succ, List.filter_append, rf_same z fun x h1 h2 => hx x h1 (by omega), List.filter_cons, hx m z (by omega), if_neg Bool.false_ne_true, List.filter_nil, List.append_nil]
theorem rf_next {p : Nat → Bool} {k x : Nat} (h : k ≤ x) (hx : ∀ y, k ≤ y → y < x → p y = false) (hp : p x = true) : (List.range (x + 1)).filter p = (List.range k).filter p ++ [x] := by
  rw [List.range_succ, List.filter_append, rf_same h hx, List.filter_cons, hp, if_pos rfl, List.filter_nil]
theorem alM_zero {bs : List Nat} (h : OkB bs) : alM bs 0 = true := List.all_eq_true.mpr fun b hb => mir_zero (h.2.2.1 b hb).1
theorem inA_len {bs : List Nat} {N : Nat} : (inA bs N).length ≤ N + 1 := by
  have := List.length_filter_le (alM bs) (List.range (N + 1))
  rw [List.length_range] at this
  exact this
theorem inA_pos {bs : List Nat} {N : Nat} (h : OkB bs) : 0 < (inA bs N).length :=
  List.length_pos_of_mem (List.mem_filter.mpr ⟨List.mem_range.mpr (Nat.succ_pos N), alM_zero h⟩)
theorem inA_one {b N : Nat} (hb : 2 ≤ b) : 0 :: mirs b (N + 1) = inA [b] N := by
  unfold inA mirs
  rw [List.range_succ_eq_map, List.filter_cons, if_neg (by simp), List.filter_cons]
  have e : alM [b] = mir b := by
    funext x
    simp [alM]
  rw [e, mir_zero hb, if_pos rfl]
  congr 1
  refine List.filter_congr fun x hx => ?_
  obtain ⟨y, _, rfl⟩ := List.mem_map.mp hx
  simp
theorem inA_more {bs : List Nat} {b N : Nat} : (inA bs N).filter (fun x => mir b x) = inA (bs ++ [b]) N := by
  unfold inA
  rw [List.filter_filter]
  refine List.filter_congr fun x hx => ?_
  unfold alM
  rw [List.all_append, List.all_cons, List.all_nil, Bool.and_true, Bool.and_comm]
end Mi

namespace Mi
def digF : Nat → Nat → Nat → List Nat
  | 0, _, n => [n]
  | f + 1, b, n => if n < b then [n] else (n % b) :: digF f b (n / b)
theorem digF_eq {b : Nat} (hb : 2 ≤ b) : ∀ {f n : Nat}, n < 2 ^ f → digs b n = digF f b n
  | 0, n, h => by
    have : n = 0 := by omega
    subst this
    rw [digs_lt (by omega)]
    rfl
  | f + 1, n, h => by
    show _ = if n < b then [n] else (n % b) :: digF f b (n / b)
    by_cases c : n < b
    · rw [if_pos c, digs_lt c]
    · have h2 : n / b < 2 ^ f := by
        have : n / b ≤ n / 2 := Nat.div_le_div_left hb (by decide)
        rw [Nat.pow_succ] at h
        omega
      rw [if_neg c, digs_ge hb (by omega), digF_eq hb h2]
def eqL : List Nat → List Nat → Bool
  | [], [] => true
  | x :: xs, y :: ys => if Nat.beq x y then eqL xs ys else false
  | _, _ => false
theorem eqL_iff : ∀ {xs ys : List Nat}, eqL xs ys = true ↔ xs = ys
  | [], [] => by simp [eqL]
  | [], _ :: _ => by simp [eqL]
  | _ :: _, [] => by simp [eqL]
  | x :: xs, y :: ys => by
    unfold eqL
    by_cases c : x = y
    · subst c
      rw [if_pos (Nat.beq_refl x), eqL_iff]
      simp
    · rw [if_neg (fun z => c (Nat.eq_of_beq_eq_true z))]
      simp [c]
def mirQ (f b n : Nat) : Bool := let d := digF f b n; eqL d d.reverse
theorem mirQ_eq {b f n : Nat} (hb : 2 ≤ b) (h : n < 2 ^ f) : mir b n = mirQ f b n := by
  unfold mir mirQ figs
  rw [digF_eq hb h, List.reverse_reverse]
  apply Bool.eq_iff_iff.mpr
  rw [decide_eq_true_eq, eqL_iff]
  exact ⟨fun h => h.symm, fun h => h.symm⟩
def seek (f b c : Nat) : Nat → List Nat → List Nat
  | 0, l => l
  | n + 1, l => seek f b c n (if mirQ f c n then (if mirQ f b n then n :: l else l) else l)
theorem seek_eq {f b c : Nat} : ∀ {n : Nat} {l : List Nat}, seek f b c n l = ((List.range n).filter fun x => mirQ f b x && mirQ f c x) ++ l
  | 0, l => rfl
  | n + 1, l => by
    show seek f b c n _ = _
    rw [seek_eq, List.range_succ, List.filter_append, List.append_assoc]
    congr 1
    rw [List.filter_cons]
    cases mirQ f c n <;> cases mirQ f b n <;> rfl
set_option exponentiation.threshold 1000 in
theorem known_all : inA [2, 10] 9009 = [0, 1, 3, 5, 7, 9, 33, 99, 313, 585, 717, 7447, 9009] := by
  have e : inA [2, 10] 9009 = (List.range 9010).filter fun x => mirQ 14 2 x && mirQ 14 10 x := by
    unfold inA
    refine List.filter_congr fun x hx => ?_
    have hx := List.mem_range.mp hx
    unfold alM
    rw [List.all_cons, List.all_cons, List.all_nil, Bool.and_true, mirQ_eq (b := 2) (f := 14) (by decide) (by omega), mirQ_eq (b := 10) (f := 14) (by decide) (by omega)]
  rw [e, ← List.append_nil (List.filter _ _), ← seek_eq]
  decide +kernel
end Mi

/-! how many the fewest are: the table -/
namespace Mi
variable {b : Nat}
def FL (b n x : Nat) : Prop := (∃ w, WayB b n x n w) ∧ ∀ m, m < x → NoW b n m n
def TblOk (b : Nat) (l : List Nat) : Prop := ∀ (i x : Nat), l[i]? = some x → FL b i x
theorem fl_few {n : Nat} {l : List Nat} (h : Few b n l) : FL b n l.length := ⟨⟨l, h.1.1⟩, h.2⟩
theorem fl_uniq {n x y : Nat} (h : FL b n x) (g : FL b n y) : x = y := by
  rcases Nat.lt_trichotomy x y with z | z | z
  · obtain ⟨w, hw⟩ := h.1
    exact absurd hw (g.2 x z w)
  · exact z
  · obtain ⟨w, hw⟩ := g.1
    exact absurd hw (h.2 y z w)
theorem tF_zero : FL b 0 0 := ⟨⟨[], ⟨rfl, rfl, (fun d hd => nomatch hd), .nil⟩⟩, fun m hm => nomatch hm⟩
theorem ins_way (p : Nat) : ∀ w : List Nat, w.Pairwise (· ≥ ·) → ∃ w' : List Nat, w'.Pairwise (· ≥ ·) ∧ w'.length = w.length + 1 ∧ w'.sum = p + w.sum ∧ ∀ d ∈ w', d = p ∨ d ∈ w
  | [], _ => ⟨[p], List.pairwise_singleton .., rfl, rfl, fun d hd => .inl (List.mem_singleton.mp hd)⟩
  | x :: w, h => by
    obtain ⟨h1, h2⟩ := List.pairwise_cons.mp h
    by_cases c : x ≤ p
    · refine ⟨p :: x :: w, List.pairwise_cons.mpr ⟨fun d hd => ?_, h⟩, rfl, rfl, fun d hd => List.mem_cons.mp hd⟩
      rcases List.mem_cons.mp hd with rfl | hd
      · exact c
      · exact Nat.le_trans (h1 d hd) c
    · obtain ⟨w', g1, g2, g3, g4⟩ := ins_way p w h2
      refine ⟨x :: w', List.pairwise_cons.mpr ⟨fun d hd => ?_, g1⟩, congrArg Nat.succ g2, by rw [List.sum_cons, List.sum_cons, g3]; omega, fun d hd => ?_⟩
      · rcases g4 d hd with rfl | hd
        · show d ≤ x
          omega
        · exact h1 d hd
      · rcases List.mem_cons.mp hd with rfl | hd
        · exact .inr List.mem_cons_self
        · rcases g4 d hd with h | h
          · exact .inl h
          · exact .inr (List.mem_cons_of_mem _ h)
theorem way_ins {n m p : Nat} {w : List Nat} (h0 : 0 < p) (hm : mir b p = true) (hp : p ≤ n) (h : WayB b (n - p) m (n - p) w) : ∃ w', WayB b n (m + 1) n w' := by
  obtain ⟨w', g1, g2, g3, g4⟩ := ins_way p w h.fall
  refine ⟨w', ⟨by rw [g2, h.len], by rw [g3, h.sum]; omega, fun d hd => ?_, g1⟩⟩
  rcases g4 d hd with rfl | hd
  · exact ⟨h0, hm, hp⟩
  · have := h.mem d hd
    exact ⟨this.1, this.2.1, by omega⟩
theorem way_low {n m p most : Nat} {w : List Nat} (h : WayB b n m p w) (hw : ∀ d ∈ w, d ≤ most) : WayB b n m most w := ⟨h.len, h.sum, fun d hd => ⟨(h.mem d hd).1, (h.mem d hd).2.1, hw d hd⟩, h.fall⟩
theorem mem_sum : ∀ {l : List Nat} {d : Nat}, d ∈ l → d ≤ l.sum
  | x :: l, d, h => by
    rw [List.sum_cons]
    rcases List.mem_cons.mp h with rfl | h
    · omega
    · have := mem_sum h
      omega
theorem tbl_step {n i m : Nat} {l : List Nat} (h : TblOk b l) (hl : l.length = i + 1) (hi : i < n)
    (hm : m ∈ ((mirs b (n + 1)).filter fun x => decide (x ≤ i + 1)).map fun x => l.getD (i + 1 - x) 0) (hy : ∀ y ∈ ((mirs b (n + 1)).filter fun x => decide (x ≤ i + 1)).map fun x => l.getD (i + 1 - x) 0, m ≤ y) : TblOk b (l ++ [1 + m]) := by
  have at_ : ∀ p, 0 < p → p ≤ i + 1 → FL b (i + 1 - p) (l.getD (i + 1 - p) 0) := fun p h0 hp => by
    refine h (i + 1 - p) _ ?_
    rw [List.getD_eq_getElem?_getD, List.getElem?_eq_getElem (by omega)]
    rfl
  intro j x hj
  by_cases c : j < l.length
  · rw [List.getElem?_append_left c] at hj
    exact h j x hj
  · rw [List.getElem?_append_right (by omega)] at hj
    have e1 := (List.getElem?_eq_some_iff.mp hj).1
    have e1 : j - l.length < 1 := e1
    have ej : j = i + 1 := by omega
    subst ej
    rw [show i + 1 - l.length = 0 by omega] at hj
    cases hj
    obtain ⟨p, hp, rfl⟩ := List.mem_map.mp hm
    obtain ⟨p1, p2⟩ := List.mem_filter.mp hp
    obtain ⟨_, p3, p4⟩ := mirs_mem.mp p1
    have p5 : p ≤ i + 1 := of_decide_eq_true p2
    refine ⟨?_, fun m' hm' w hw => ?_⟩
    · obtain ⟨w, hw⟩ := (at_ p p3 p5).1
      rw [Nat.add_comm 1]
      exact way_ins p3 p4 p5 hw
    · cases w with
      | nil =>
        have := hw.sum
        rw [List.sum_nil] at this
        omega
      | cons q r =>
        cases m' with
        | zero =>
          have := hw.len
          cases this
        | succ m' =>
          obtain ⟨q1, q2, q3, q4, hr⟩ := way_cons.mp hw
          have hr2 : WayB b (i + 1 - q) m' (i + 1 - q) r := way_low hr fun d hd => by
            have := mem_sum hd
            rw [hr.sum] at this
            exact this
          have h1 := at_ q q1 q3
          have h2 := hy _ (List.mem_map.mpr ⟨q, List.mem_filter.mpr ⟨mirs_mem.mpr ⟨by omega, q1, q2⟩, decide_eq_true q3⟩, rfl⟩)
          exact h1.2 m' (by omega) r hr2
end Mi

/-! how many ways -/
namespace Mi
variable {b : Nat}
def WnC (f : Nat → Nat → Nat) (p : Nat) : Nat → Nat → Nat
  | 0, n => f 0 n
  | c + 1, n => f (c + 1) n + if p ≤ n then WnC f p c (n - p) else 0
/-- how many ways by c parts a number has; the greatest part first -/
def Wn : List Nat → Nat → Nat → Nat
  | [], c, n => if c = 0 ∧ n = 0 then 1 else 0
  | p :: ps, c, n => WnC (Wn ps) p c n
theorem wn_low {p c n : Nat} {f : Nat → Nat → Nat} (h : n < p) : WnC f p c n = f c n := by
  cases c with
  | zero => rfl
  | succ c =>
    show f (c + 1) n + (if p ≤ n then _ else 0) = _
    rw [if_neg (by omega)]
    rfl
theorem wn_high {p c n : Nat} {f : Nat → Nat → Nat} (h : p ≤ n) : WnC f p (c + 1) n = f (c + 1) n + WnC f p c (n - p) := by
  show f (c + 1) n + (if p ≤ n then _ else 0) = _
  rw [if_pos h]
def rowL (N : Nat) (f : Nat → Nat) : List Nat := (List.range (N + 1)).map f
theorem rowL_get {N n : Nat} {f : Nat → Nat} (h : n ≤ N) : (rowL N f)[n]? = some (f n) := by
  unfold rowL
  rw [List.getElem?_map, List.getElem?_range (by omega)]
  rfl
theorem rowL_len {N : Nat} {f : Nat → Nat} : (rowL N f).length = N + 1 := by
  unfold rowL
  rw [List.length_map, List.length_range]
theorem rowL_set {N n x : Nat} {f g : Nat → Nat} (hn : n ≤ N) (h : ∀ k, g k = if k = n then x else f k) : (rowL N f).set n x = rowL N g := by
  refine List.ext_getElem? fun i => ?_
  rw [List.getElem?_set]
  by_cases c : i ≤ N
  · rw [rowL_get c, rowL_get c, h i]
    by_cases e : i = n
    · subst e
      rw [if_pos rfl, if_pos (by rw [rowL_len]; omega), if_pos rfl]
    · rw [if_neg (fun z => e z.symm), if_neg e]
  · rw [List.getElem?_eq_none (by rw [rowL_len]; omega), List.getElem?_eq_none (by rw [rowL_len]; omega), if_neg (by omega)]
theorem rowL_congr {N : Nat} {f g : Nat → Nat} (h : ∀ k, k ≤ N → f k = g k) : rowL N f = rowL N g := by
  unfold rowL
  exact List.map_congr_left fun k hk => h k (by have := List.mem_range.mp hk; omega)
/-! all ways -/
def ApF (f : Nat → Nat) (p : Nat) : Nat → Nat → Nat
  | 0, n => f n
  | k + 1, n => f n + if p ≤ n then ApF f p k (n - p) else 0
def Ap (f : Nat → Nat) (p n : Nat) : Nat := ApF f p n n
theorem apF_more {f : Nat → Nat} {p : Nat} (hp : 0 < p) : ∀ (k n : Nat), n ≤ k → ApF f p (k + 1) n = ApF f p k n
  | 0, n, h => by
    have : n = 0 := by omega
    subst this
    show f 0 + (if p ≤ 0 then _ else 0) = f 0
    rw [if_neg (by omega)]
    rfl
  | k + 1, n, h => by
    show f n + (if p ≤ n then ApF f p (k + 1) (n - p) else 0) = f n + if p ≤ n then ApF f p k (n - p) else 0
    by_cases c : p ≤ n
    · rw [if_pos c, if_pos c, apF_more hp k (n - p) (by omega)]
    · rw [if_neg c, if_neg c]
theorem apF_to {f : Nat → Nat} {p : Nat} (hp : 0 < p) {n : Nat} : ∀ (d : Nat), ApF f p (n + d) n = ApF f p n n
  | 0 => rfl
  | d + 1 => by
    rw [← Nat.add_assoc, apF_more hp (n + d) n (by omega), apF_to hp d]
theorem ap_eq {f : Nat → Nat} {p n : Nat} (hp : 0 < p) : Ap f p n = f n + if p ≤ n then Ap f p (n - p) else 0 := by
  unfold Ap
  rw [← apF_more hp n n (Nat.le_refl _)]
  show f n + (if p ≤ n then ApF f p n (n - p) else 0) = _
  by_cases c : p ≤ n
  · rw [if_pos c, if_pos c]
    have := apF_to (f := f) hp (n := n - p) p
    rw [show n - p + p = n by omega] at this
    rw [this]
  · rw [if_neg c, if_neg c]
/-- how many ways by any number of parts -/
def An : List Nat → Nat → Nat
  | [], n => if n = 0 then 1 else 0
  | p :: ps, n => Ap (An ps) p n
theorem ap_congr {f g : Nat → Nat} {p : Nat} (hp : 0 < p) : ∀ (n : Nat), (∀ k, k ≤ n → f k = g k) → Ap f p n = Ap g p n := fun n => by
  induction n using Nat.strongRecOn with
  | ind n ih =>
    intro h
    rw [ap_eq (f := f) (n := n) hp, ap_eq (f := g) (n := n) hp, h n (Nat.le_refl _)]
    by_cases c : p ≤ n
    · rw [if_pos c, if_pos c, ih (n - p) (by omega) fun k hk => h k (by omega)]
    · rw [if_neg c, if_neg c]
theorem ap_swap {f : Nat → Nat} {p q : Nat} (hp : 0 < p) (hq : 0 < q) (n : Nat) : Ap (Ap f p) q n = Ap (Ap f q) p n := by
  induction n using Nat.strongRecOn with
  | ind n ih =>
    rw [ap_eq (f := Ap f p) hq, ap_eq (f := Ap f q) hp, ap_eq (f := f) (p := p) (n := n) hp, ap_eq (f := f) (p := q) (n := n) hq]
    by_cases c1 : p ≤ n
    · by_cases c2 : q ≤ n
      · rw [if_pos c1, if_pos c2, if_pos c2, if_pos c1]
        rw [ih (n - q) (by omega), ap_eq (f := Ap f q) (n := n - q) hp, ← ih (n - p) (by omega), ap_eq (f := Ap f p) (n := n - p) hq]
        by_cases c3 : p ≤ n - q
        · rw [if_pos c3, if_pos (show q ≤ n - p by omega), ih (n - p - q) (by omega), show n - p - q = n - q - p by omega]
          omega
        · rw [if_neg c3, if_neg (show ¬ q ≤ n - p by omega)]
          omega
      · rw [if_pos c1, if_neg c2, if_neg c2, if_pos c1, ← ih (n - p) (by omega), ap_eq (f := Ap f p) (n := n - p) hq, if_neg (show ¬ q ≤ n - p by omega)]
        omega
    · by_cases c2 : q ≤ n
      · rw [if_neg c1, if_pos c2, if_pos c2, if_neg c1, ih (n - q) (by omega), ap_eq (f := Ap f q) (n := n - q) hp, if_neg (show ¬ p ≤ n - q by omega)]
        omega
      · rw [if_neg c1, if_neg c2, if_neg c2, if_neg c1]
theorem an_perm {ps qs : List Nat} (h : ps.Perm qs) : (∀ p ∈ ps, 0 < p) → ∀ n, An ps n = An qs n := by
  induction h with
  | nil => intro _ n; rfl
  | cons x h ih =>
    intro h0 n
    have := ih fun p hp => h0 p (List.mem_cons_of_mem _ hp)
    exact ap_congr (h0 x List.mem_cons_self) n fun k _ => this k
  | swap x y l =>
    intro h0 n
    exact ap_swap (h0 x (List.mem_cons_of_mem _ List.mem_cons_self)) (h0 y List.mem_cons_self) n
  | trans h1 h2 ih1 ih2 =>
    intro h0 n
    rw [ih1 h0 n, ih2 (fun p hp => h0 p (h1.mem_iff.mpr hp)) n]
theorem an_rev {ps : List Nat} (h : ∀ p ∈ ps, 0 < p) (n : Nat) : An ps.reverse n = An ps n := (an_perm (List.reverse_perm ps).symm h n).symm
end Mi

/-! a caught exception that outlives its clause -/
namespace Mi
open PySem PySem.Spec PyProof.Rows L2
/-- the exception of the class cls at a -/
def ExK (cls : Value) (a : Addr) : HO := .ext fun h => ∃ (oe : Obj) (vs : Array Value), h.get? a = some oe ∧ Zc cls none oe ∧ oe.data = .fields vs
section
variable {X : Cx} {pins : List (Addr × Obj)} {σ : L2.St} {H : Hp} {s : Shared} {a : Addr} {cls : Value} {oe : Obj} {vs : Array Value}
/-- what came after the entry may be looked at from now on -/
theorem seen_ (I : Inv X pins σ H s) (n0 : X.s_0.heap.get? a = none) (e : s.heap.get? a = some oe) (z : Zc cls none oe) (d : oe.data = .fields vs) (hn : H a = none) (nL : a ≠ X.env.locals) (np : ∀ p ∈ X.pn ++ pins, p.1 ≠ a) :
    Inv X pins σ (upd H a (ExK cls a)) s := by
  have ne : ∀ {b : Addr} {o : HO}, H b = some o → b ≠ a := fun h q => by rw [q, hn] at h; cases h
  refine ⟨I.ok, I.os, I.bare, ⟨I.base.keep, I.base.slot, fun b o q h x => ?_, I.base.there, fun b xs q => ?_, fun b o u q => ?_, fun b ps q => ?_⟩, I.loc, I.cell, ?_, fun x c q => ?_, fun p hp => ?_, ?_, I.len⟩
  · rw [upd_ne (fun y => by rw [y, n0] at q; cases q)]
    exact I.base.free b o q h x
  · have := I.base.tups b xs q
    rw [upd_ne (ne this)]
    exact this
  · have := I.base.frzs b o u q
    rw [upd_ne (ne this)]
    exact this
  · obtain ⟨more, this⟩ := I.base.tbls b ps q
    refine ⟨more, ?_⟩
    rw [upd_ne (ne this)]
    exact this
  · rw [upd_ne (Ne.symm nL)]
    exact I.free
  · have h1 := I.freeC x c q
    obtain ⟨v, o, ho, hd⟩ := I.cell x c q
    rw [upd_ne (fun y => by
      subst y
      rw [e] at ho
      cases ho
      simp [d] at hd)]
    exact h1
  · obtain ⟨h1, h2, h3⟩ := I.pin p hp
    refine ⟨h1, ?_, h3⟩
    rw [upd_ne (np p hp)]
    exact h2
  · exact I.hok.laidN (fun b u q => q) hn ⟨⟨oe, vs, e, z, d⟩, ⟨oe, e⟩, fun _ _ ⟨o, v, q, r⟩ k => ⟨o, v, k o q, r⟩⟩
end
/-- what the clause 'except x as n' wishes: the exception is of the named class; behind the suite it is there to be looked at -/
def wKeep (K : PySem.W.Frag) (c : Value) (i : Nat) (ts : TS) (D : Ends) : WX := fun cls d σ H => d = none ∧ PySem.W.exmOne K cls c = some true ∧
  ∀ a, H a = none → ts { nx := fun σ' H' => D.nx (σ'.set i none) (upd H' a (ExK cls a)), rt := fun _ _ => False, bk := fun _ _ => False, ct := fun _ _ => False } (σ.set i (some (.ref a))) H
def tKeep (K : PySem.W.Frag) (c : Value) (i : Nat) (tb : WX → TS) (ts : TS) : TS := fun D σ H => tb (wKeep K c i ts D) D σ H
section
variable {X : Cx} {x n : Str} {c : Value} {i : Nat} {body suite : List Stmt} {b₀ : Stmt} {np pos pos' : Pos} {tb : WX → TS} {ts : TS}
/-- the clause is entered -/
theorem entered_ {pins : List (Addr × Obj)} {D : Ends} {xe : Value → Shared → Prop} {u : Value} {s' : Shared} (ok : X.Ok) (hx : X.ex = []) (hs : X.stack = X.env :: X.outer) (hf : X.env.frame = some X.env.locals) (hN : X.N.Nodup) (hi : X.N[i]? = some n) (hln : X.env.kindOf n = some .local) (hc : Names X x c)
    (hsu : ∀ (a : Addr) (oe : Obj) (pn : List (Addr × Obj)), PSs (X.suite a ((a, oe) :: pn)) (b₀ :: suite) ts) (air : XE (X.tr (X.pn ++ pins) xe) (wKeep X.K c i ts D) u s') :
    wpAny (model X.prog X.w) X.A (noteFrame u X.env) (fun _ s₂ => wpAny (model X.prog X.w) X.A (setFlight u none) (fun _ s₃ => wpAny (model X.prog X.w) X.A (handleBy u X.env [.ExceptHandler (some (.Name x np)) (some n) (b₀ :: suite) pos']) (SP X pins D) X.xe s₃) X.xe s₂) X.xe s' := by
  obtain ⟨a, B, sI, pn2, σ1, H1, cls, d, rfl, I0, old, up, air, na, os, bare, rfl, isC, go⟩ := air
  have I1 : Inv X pins σ1 H1 sI := I0.ofTry ok
  refine Sky.land Zc.steady (by rw [ok.frames, hs]) hf (by rw [← hs]; exact air) fun h1 f1 u1 => ?_
  obtain ⟨o1, v1, e1, z1, d1⟩ := f1.there
  -- the exception is no frame
  have out : a ∉ frs (X.env :: X.outer) := fun m => by
    obtain ⟨_, o, e, no⟩ := f1.2.2.1.mem m
    rw [e1] at e
    cases e
    exact no _ d1
  have nL : a ≠ X.env.locals := fun z => out (List.mem_filterMap.mpr ⟨X.env, List.mem_cons_self, by rw [hf, z]⟩)
  have nF : a ∉ X.fs := fun m => by
    obtain ⟨y, hy, q⟩ := List.mem_filterMap.mp m
    exact out (List.mem_filterMap.mpr ⟨y, List.mem_cons_of_mem _ hy, q⟩)
  -- nor was it there before
  have nI : sI.heap.get? a = none := by
    cases e : sI.heap.get? a with
    | none => rfl
    | some o =>
      have z := old a o e (by rw [show frs (X.tr (X.pn ++ pins) xe).stack = frs (X.env :: X.outer) by rw [← hs]]; exact out)
      rw [f1.2.1] at z
      cases z
  have n0 : X.s_0.heap.get? a = none := by
    cases e : X.s_0.heap.get? a with
    | none => rfl
    | some o =>
      obtain ⟨o2, e2⟩ := I1.base.there a o e (by rw [hx]; exact fun z => nomatch z)
      rw [nI] at e2
      cases e2
  have np2 : ∀ p ∈ X.pn ++ pins, p.1 ≠ a := fun p hp z => by
    have := (I1.pin p hp).1
    rw [z, nI] at this
    cases this
  have I2 : Inv X pins σ1 H1 { s' with heap := h1 } := I1.landed old f1.1 (up.trans u1) os bare
  have S2 := I2.suite e1 d1 na nL nF
  refine wpAny_handleBy_cons (codeAny_handlers_test ?_) (fun q => nomatch q)
  -- the test of the class
  have ty : PySem.W.Looks (model X.prog X.w) h1 (typeOf (.ref a)) cls := fun A Q E s k q => wpAny_typeOf_ref (k _ _ e1) (by rw [z1.1]; exact q)
  have yes := (PySem.W.exm_one (M := model X.prog X.w) I2.kIn ty isC)
  have named : ∀ {Q : Value → Shared → Prop} {E : Value → Shared → Prop}, Q c { s' with heap := h1 } → wpAny (model X.prog X.w) (X.A.mark (some (.ref a))) (eval (.Name x np) X.env) Q E { s' with heap := h1 } := fun q => by
    obtain ⟨g, nd, h | ⟨h, v, nn⟩⟩ := hc
    · exact ld_glob (X := X.suite a ((a, o1) :: (X.pn ++ pins))) S2 g h q nd
    · exact ld_blt (X := X.suite a ((a, o1) :: (X.pn ++ pins))) S2 g h v q nn nd
  refine named (yes.here (codeAny_handlers_suite_as (HandSPX.lands_againZ f1 fun h2 f2 u2 => ?_)))
  obtain ⟨o2, v2, e2, z2, d2⟩ := f2.there
  have I3 : Inv X pins σ1 H1 { s' with heap := h2 } := I1.landed old f2.1 ((up.trans u1).trans u2) os bare
  have S3 := I3.suite e2 d2 na nL nF
  refine store_ok (X := X.suite a ((a, o2) :: (X.pn ++ pins))) (v := .ref a) S3 hN hi (.inl hln) rfl (fun s5 S5 => ?_) (.inr hln)
  refine wpAny_mono ((hsu a o2 (X.pn ++ pins)).run [] s5 _ H1 _ S5 (go a na)) ?_ (fun _ _ z => False.elim z)
  intro f s6 h6
  cases f with
  | next =>
    obtain ⟨σ6, H6, S6, q6⟩ := h6
    have p6 := S6.pin (a, o2) (List.mem_append_left _ List.mem_cons_self)
    have I6 : Inv X pins σ6 H6 s6 := S6.unsuite ok
    have I7 := seen_ I6 n0 p6.1 z2 d2 p6.2.1 nL np2
    exact gone_ok I7 hN hi hln fun s7 J7 => ⟨_, _, J7, q6⟩
  | brk =>
    obtain ⟨_, _, _, q⟩ := h6
    exact q.elim
  | cont =>
    obtain ⟨_, _, _, q⟩ := h6
    exact q.elim
  | ret u =>
    obtain ⟨_, _, _, _, _, q⟩ := h6
    exact q.elim
/-- try: body / except x as n: suite, where the suite keeps the exception -/
theorem ps_try_keep (hx : X.ex = []) (hs : X.stack = X.env :: X.outer) (hf : X.env.frame = some X.env.locals) (hN : X.N.Nodup) (hi : X.N[i]? = some n) (hln : X.env.kindOf n = some .local) (hc : Names X x c)
    (hb : ∀ (W : WX) (pn : List (Addr × Obj)) (xe : Value → Shared → Prop), Takes (X.tr pn xe) W → PassesOwn (model X.prog X.w) X.A X.env xe → PSs (X.tr pn xe) body (tb W))
    (hsu : ∀ (a : Addr) (oe : Obj) (pn : List (Addr × Obj)), PSs (X.suite a ((a, oe) :: pn)) (b₀ :: suite) ts) :
    PS X (.Try body [.ExceptHandler (some (.Name x np)) (some n) (b₀ :: suite) pos'] [] [] pos) (tKeep X.K c i tb ts) := by
  refine ⟨fun pins s σ H D I h => wpAny_Try_except ?_⟩
  have run := (hb (wKeep X.K c i ts D) (X.pn ++ pins) _ (fun u s' air => entered_ (pos' := pos') (np := np) I.ok hx hs hf hN hi hln hc hsu air) PassesOwn.looking).run [] s σ H D (I.toTry _) h
  refine wpAny_mono run (fun f s1 h1 => ?_) (fun _ _ z => z)
  cases f with
  | next =>
    obtain ⟨σ1, H1, J, q⟩ := h1
    exact wpAny_execs_nil ⟨σ1, H1, J.ofTry I.ok, q⟩
  | brk =>
    obtain ⟨σ1, H1, J, q⟩ := h1
    exact ⟨σ1, H1, J.ofTry I.ok, q⟩
  | cont =>
    obtain ⟨σ1, H1, J, q⟩ := h1
    exact ⟨σ1, H1, J.ofTry I.ok, q⟩
  | ret u =>
    obtain ⟨v, σ1, H1, J, r, q⟩ := h1
    exact ⟨v, σ1, H1, J.ofTry I.ok, r, q⟩
end
/-- a value's class, for isinstance; a kept exception, too -/
def TyE (K : PySem.W.Frag) (H : Hp) (x : V) (t : Value) : Prop := TyX K H x t ∨ ∃ (a D : Addr), x = .ref a ∧ t = .ref D ∧ H a = some (ExK (.ref D) a) ∧ ExcC K D
theorem kit_ofE {X : Cx} {pins : List (Addr × Obj)} {σ : L2.St} {H : Hp} {s : Shared} {x : V} {u t : Value} (I : Inv X pins σ H s) (rx : RelV x u) (ty : TyE X.K H x t) : ∃ P : Heap → Prop, PySem.W.KitX X.K u t P ∧ P s.heap ∧ u ≠ .builtin "__main__.__loader__#opaque" := by
  rcases ty with ty | ⟨a, D, rfl, rfl, ha, hD⟩
  · exact kit_of I rx ty
  · cases (show u = Value.ref a from rx)
    obtain ⟨⟨⟨oc, od, da, sl⟩, vs, e, z, d⟩, _⟩ := I.hok a _ ha
    obtain ⟨h1, h2⟩ := z
    dsimp only at h1 h2 d
    subst h1 h2 d
    exact ⟨_, PySem.W.handS_kitx_exc hD.hg hD.hk hD.hs hD.hd hD.ha hD.hn hD.ht hD.hm, ⟨e, rfl, rfl, trivial⟩, fun z => nomatch z⟩
def rIsX (K : PySem.W.Frag) : List V → Hp → VK → Prop := fun xs H Q => ∃ (x c : V) (t u : Value) (b : Bool), xs = [x, c] ∧ ClsV c u ∧ TyE K H x t ∧ PySem.W.kitOne K t u = some b ∧ Q (.bl b) H
def rIsXT (K : PySem.W.Frag) : List V → Hp → VK → Prop := fun xs H Q => ∃ (x : V) (tp : Addr) (cs : List V) (t : Value) (us : List Value) (b : Bool), xs = [x, .ref tp] ∧ H tp = some (.tup cs) ∧ Paired ClsV cs us ∧ TyE K H x t ∧ PySem.W.kitAny K t us = some b ∧ Q (.bl b) H
section
variable {X : Cx}
theorem call_isX : CallR X (.builtin "isinstance") (rIsX X.K) := by
  intro pins s σ H xs us Q I r h
  obtain ⟨x, c, t, u, b, rfl, k, ty, e, q⟩ := h
  obtain ⟨u1, u2, rfl, r1, r2⟩ := vals2 r
  cases k.eq r2
  obtain ⟨P, Z, p, hx⟩ := kit_ofE I r1 ty
  exact PySem.W.kia_one Z I.kIn p e hx fun tk => ⟨.bl b, H, I.tok tk, rfl, q⟩
theorem call_isXT : CallR X (.builtin "isinstance") (rIsXT X.K) := by
  intro pins s σ H xs us Q I r h
  obtain ⟨x, tp, cs, t, ws, b, rfl, hT, k, ty, e, q⟩ := h
  obtain ⟨u1, u2, rfl, r1, r2⟩ := vals2 r
  cases (show u2 = Value.ref tp from r2)
  obtain ⟨P, Z, p, hx⟩ := kit_ofE I r1 ty
  obtain ⟨_, its, rv, ⟨oc, od, dt, sl⟩, h1, h2, n, h3⟩ := (show ObjOk X.prog X.w H s.heap tp (.tup cs) from I.hok tp _ hT)
  cases ClsV.all k rv
  dsimp only at h2 h3
  subst h2 h3
  exact PySem.W.kia_tup Z I.kIn p h1 e hx fun tk => ⟨.bl b, H, I.tok tk, rfl, q⟩
end
/-- what the written part says of the class c among the refusals -/
def kinds : List Str := ["NoBase", "NoCommand", "NoMirror", "NoNumber", "NoPlace", "NoText", "NoWay"]
structure ExF (K : PySem.W.Frag) (C : Str → Addr) (c : Str) : Prop where
  ec : ExcC K (C c)
  top : PySem.W.exmOne K (.ref (C c)) (.ref (C "MirrorError")) = some true
  ve : PySem.W.kitOne K (.ref (C c)) (.type "ValueError") = some true
  no : ∀ d ∈ kinds, d ≠ c → PySem.W.kitOne K (.ref (C c)) (.ref (C d)) = some false
theorem ExF.own {K : PySem.W.Frag} {C : Str → Addr} {c : Str} : PySem.W.kitOne K (.ref (C c)) (.ref (C c)) = some true := by
  unfold PySem.W.kitOne
  rw [if_pos (by simp)]
theorem clsAt_of {mg : Str → Option Value} {c : Str} {a : Addr} (g : mg c = some (.ref a)) : clsAt mg c = a := by
  unfold clsAt
  rw [g]
theorem kit_none {K : PySem.W.Frag} {t : Value} : ∀ {us : List Value}, (∀ u ∈ us, PySem.W.kitOne K t u = some false) → PySem.W.kitAny K t us = some false
  | [], _ => rfl
  | u :: us, h => by
    unfold PySem.W.kitAny
    rw [h u List.mem_cons_self]
    exact kit_none fun x hx => h x (List.mem_cons_of_mem _ hx)
end Mi

/-! repr of data with dicts inside -/
namespace Mi
open PySem PySem.Spec PyProof.Rows L2
def keyD : Key → PyData
  | .inl i => .int i
  | .inr x => .str x
mutual
inductive Dq (K : PySem.W.Frag) (H : Hp) : V → PyData → Prop
  | non : Dq K H .non .none
  | bl (b : Bool) : Dq K H (.bl b) (.bool b)
  | int (i : Int) : Dq K H (.int i) (.int i)
  | str (x : Str) : Dq K H (.str x) (.str x)
  | lst {a : Addr} {xs : List V} {ds : List PyData} : SqL K H a xs → DqAll K H xs ds → Dq K H (.ref a) (.list ds)
  | tup {a : Addr} {xs : List V} {ds : List PyData} : SqT K H a xs → DqAll K H xs ds → Dq K H (.ref a) (.tuple ds)
  | dic {a : Addr} {kvs : List (Key × V)} {ds : List PyData} : H a = some (.dK kvs) → DqAll K H (kvs.map (·.2)) ds → Dq K H (.ref a) (.dict ((kvs.map fun kv => keyD kv.1).zip ds))
inductive DqAll (K : PySem.W.Frag) (H : Hp) : List V → List PyData → Prop
  | nil : DqAll K H [] []
  | cons {v : V} {vs : List V} {d : PyData} {ds : List PyData} : Dq K H v d → DqAll K H vs ds → DqAll K H (v :: vs) (d :: ds)
end
theorem DqAll.length {K : PySem.W.Frag} {H : Hp} : ∀ {vs : List V} {ds : List PyData}, DqAll K H vs ds → vs.length = ds.length
  | _, _, .nil => rfl
  | _, _, .cons _ h => congrArg (· + 1) (DqAll.length h)
section
variable {X : Cx} {pins : List (Addr × Obj)} {σ : L2.St} {H : Hp} {s : Shared}
/-- the keys' data -/
theorem keys_read {P : Program} {w : World} {h : Heap} : ∀ {es : List DictEntry} {vs : List (Key × Value)}, Pairs (mixKind P w) es vs → ReadsAll h (es.map (·.key)) (vs.map fun kv => keyD kv.1) []
  | _, _, .nil => .nil
  | _, _, .cons (e := e) (kv := kv) hk _ r => by
    obtain ⟨k, v⟩ := kv
    have ih := keys_read (h := h) r
    have one : Reads h e.key (keyD k) [] := by
      rcases keyIs_shape hk with ⟨i, t, h1, h2⟩ | ⟨x, t, h1, h2⟩
      · dsimp only at h1
        subst h1
        rw [h2]
        exact .int i t
      · dsimp only at h1
        subst h1
        rw [h2]
        exact .str x t
    exact .cons one ih
theorem vals_same {P : Program} {w : World} : ∀ {es : List DictEntry} {vs : List (Key × Value)}, Pairs (mixKind P w) es vs → es.map (·.val) = vs.map (·.2)
  | _, _, .nil => rfl
  | _, _, .cons _ hv r => by rw [List.map_cons, List.map_cons, hv, vals_same r]
theorem kv_split : ∀ {kvs : List (Key × V)} {vs : List (Key × Value)}, KV kvs vs → kvs.map (fun kv => keyD kv.1) = vs.map (fun kv => keyD kv.1) ∧ Vals (kvs.map (·.2)) (vs.map (·.2))
  | _, _, .nil => ⟨rfl, .nil⟩
  | _, _, .cons ⟨h1, h2⟩ r => by
    obtain ⟨e, v⟩ := kv_split r
    refine ⟨?_, .cons h2 v⟩
    rw [List.map_cons, List.map_cons, h1, e]
theorem zip_fst : ∀ {as bs : List PyData}, as.length = bs.length → (as.zip bs).map (·.1) = as ∧ (as.zip bs).map (·.2) = bs
  | [], [], _ => ⟨rfl, rfl⟩
  | [], _ :: _, h => nomatch h
  | _ :: _, [], h => nomatch h
  | a :: as, b :: bs, h => by
    obtain ⟨h1, h2⟩ := zip_fst (as := as) (bs := bs) (Nat.succ.inj h)
    rw [List.zip_cons_cons, List.map_cons, List.map_cons, h1, h2]
    exact ⟨rfl, rfl⟩
mutual
theorem dq_reads (I : Inv X pins σ H s) (m : ∃ o es ep, s.heap.get? sysModules = some o ∧ o.data = .dict es ep) : ∀ {v : V} {d : PyData}, Dq X.K H v d → ∀ {u : Value}, RelV v u → ∃ as, Reads s.heap u d as ∧ sysModules ∉ as
  | _, _, .non, _, r => by
    cases r
    exact ⟨_, .none, fun z => nomatch z⟩
  | _, _, .bl b, _, r => by
    cases r
    exact ⟨_, .bool b, fun z => nomatch z⟩
  | _, _, .int i, _, r => by
    obtain ⟨t, rfl⟩ := r
    exact ⟨_, .int i t, fun z => nomatch z⟩
  | _, _, .str x, _, r => by
    obtain ⟨t, rfl⟩ := r
    exact ⟨_, .str x t, fun z => nomatch z⟩
  | _, _, .lst hs ha, _, r => by
    cases r
    obtain ⟨its, rv, ⟨o, n, ho, hc, _, hd⟩, _⟩ := I.list hs
    obtain ⟨as, hr, no⟩ := dqs_reads I m ha rv
    refine ⟨_, .list ho hc hd hr, fun z => ?_⟩
    rcases List.mem_cons.mp z with z | z
    · obtain ⟨o2, es, ep, h1, h2⟩ := m
      rw [z, ho] at h1
      cases h1
      rw [hd] at h2
      cases h2
    · exact no z
  | _, _, .tup hs ha, _, r => by
    cases r
    obtain ⟨its, rv, ⟨o, ho, hc, n, hd⟩, _⟩ := I.tuple hs
    obtain ⟨as, hr, no⟩ := dqs_reads I m ha rv
    exact ⟨_, .tuple ho hc hd hr, no⟩
  | _, _, .dic (kvs := kvs) (ds := ds) hk ha, _, r => by
    cases r
    obtain ⟨_, ns, vs, kv, o, es, ep, ho, hx, hd, hks, hp, _⟩ := dk_of I.hok hk
    obtain ⟨e1, v1⟩ := kv_split kv
    have hl := ha.length
    rw [List.length_map] at hl
    obtain ⟨z1, z2⟩ := zip_fst (as := kvs.map fun kv => keyD kv.1) (bs := ds) (by rw [List.length_map]; exact hl)
    obtain ⟨as, hr, no⟩ := dqs_reads I m ha v1
    refine ⟨_, Reads.dict ho hx.1 hd (as := []) (bs := as) ?_ ?_, fun z => ?_⟩
    · rw [z1, e1]
      exact keys_read hp
    · rw [vals_same hp, z2]
      exact hr
    · rw [List.cons_append, List.nil_append] at z
      rcases List.mem_cons.mp z with z | z
      · rw [← z] at ns
        cases ns
      · exact no z
theorem dqs_reads (I : Inv X pins σ H s) (m : ∃ o es ep, s.heap.get? sysModules = some o ∧ o.data = .dict es ep) : ∀ {vs : List V} {ds : List PyData}, DqAll X.K H vs ds → ∀ {us : List Value}, Vals vs us → ∃ as, ReadsAll s.heap us ds as ∧ sysModules ∉ as
  | _, _, .nil, _, r => by
    cases r
    exact ⟨_, .nil, fun z => nomatch z⟩
  | _, _, .cons h1 h2, _, r => by
    cases r with
    | cons r1 r2 =>
      obtain ⟨as, q1, n1⟩ := dq_reads I m h1 r1
      obtain ⟨bs, q2, n2⟩ := dqs_reads I m h2 r2
      refine ⟨_, .cons q1 q2, fun z => ?_⟩
      rcases List.mem_append.mp z with z | z
      · exact n1 z
      · exact n2 z
end
end
/-- repr(x), dicts and all -/
def rReprQ (K : PySem.W.Frag) : List V → Hp → VK → Prop := fun xs H Q => ∃ (x : V) (d : PyData), xs = [x] ∧ Dq K H x d ∧ d.showable = true ∧ d.depth ≤ 64 ∧ d.shown.length ≤ sizeLine ∧ Q (.str d.shown) H
theorem call_reprQ {X : Cx} {k : Nat} (hr : Rm k X.A) (m : ∃ o es ep, X.base.get? sysModules = some o ∧ o.data = .dict es ep) : CallR X (.builtin "repr") (rReprQ X.K) := by
  intro pins s σ H xs us Q I r h
  obtain ⟨x, d, rfl, hd, h1, h3, h4, q⟩ := h
  obtain ⟨u, rfl, ru⟩ := vals1 r
  obtain ⟨o, es, ep, hm, hdt⟩ := m
  obtain ⟨as, rd, no⟩ := dq_reads I ⟨o, es, ep, I.bk _ _ hm, hdt⟩ hd ru
  have fin : ∀ {a : Addr}, u = .ref a → wpAny (model X.prog X.w) X.A (call (.builtin "repr") [u]) (EP X pins σ Q) X.xe s := by
    rintro a rfl
    refine repr_of_reads' rd h1 (fun _ => no) hr.gd ?_ (fun _ _ z => z) ?_ h4
    · have := hr.rm.un
      omega
    · intro h' u tk kp
      exact ⟨.str d.shown, H, I.kept kp, ⟨u, rfl⟩, q⟩
  cases hd with
  | lst _ _ => exact fin (show u = .ref _ from ru)
  | tup _ _ => exact fin (show u = .ref _ from ru)
  | dic _ _ => exact fin (show u = .ref _ from ru)
  | _ => exact call_reprV hr pins s σ H _ _ Q I r ⟨_, _, rfl, by constructor, h1, rfl, h3, h4, q⟩
end Mi

namespace Mi
open PySem PySem.Spec PyProof.Rows L2
/-- figures, of -1 the greatest one -/
def figsZ (b : Nat) (i : Int) : List Nat := if i < 0 then [b - 1] else figs b i.toNat
def sp__law_draws_d (K : PySem.W.Frag) (C : Str → Addr) : Sp := fun vs H Q E => ∃ (a : Addr) (ns : List Int), vs = [.ref a] ∧ SqL K H a (ns.map V.int) ∧ ns.length ≤ 63 ∧ ∀ p H' (ds : List Nat), ds.length ≤ 240 → Led H [(p, .lst (nints ds))] H' → Q (.ref p) H'
def sp__law_take_d (K : PySem.W.Frag) (C : Str → Addr) : Sp := fun vs H Q E => ∃ (a : Addr) (ds : List Nat) (m : Nat), vs = [.ref a, .int m] ∧ H a = some (.lst (nints ds)) ∧ 0 < m ∧ ds.length ≤ 240 ∧ ∀ H' (ds' : List Nat) (g : Nat), ds'.length ≤ 240 → g < m → Led (rmv H a) [(a, .lst (nints ds'))] H' → Q (.int g) H'
def sp__law_base_d (K : PySem.W.Frag) (C : Str → Addr) : Sp := fun vs H Q E => ∃ (a : Addr) (ds : List Nat), vs = [.ref a] ∧ H a = some (.lst (nints ds)) ∧ ds.length ≤ 240 ∧ ∀ H' (ds' : List Nat) (b : Nat), ds'.length ≤ 240 → 2 ≤ b → b ≤ 36 → Led (rmv H a) [(a, .lst (nints ds'))] H' → Q (.int b) H'
def sp__law_figures_d (K : PySem.W.Frag) (C : Str → Addr) : Sp := fun vs H Q E => ∃ (i : Int) (b : Nat), vs = [.int i, .int b] ∧ 2 ≤ b ∧ b ≤ 36 ∧ -1 ≤ i ∧ i < (lim : Nat) ∧ ∀ p H', Led H [(p, .lst (nints (figsZ b i)))] H' → Q (.ref p) H'
def sp__law_is_mirrored_d (K : PySem.W.Frag) (C : Str → Addr) : Sp := fun vs H Q E => ∃ n b : Nat, vs = [.int n, .int b] ∧ 2 ≤ b ∧ b ≤ 36 ∧ n < lim ∧ ∀ H', Led H [] H' → Q (.bl (mir b n)) H'
def sp__law_power_d (K : PySem.W.Frag) (C : Str → Addr) : Sp := fun vs H Q E => ∃ b m : Nat, vs = [.int b, .int m] ∧ b ≤ 36 ∧ m ≤ 100000 ∧ Q (.int ((b ^ m : Nat))) H
def sp__law_number_d (K : PySem.W.Frag) (C : Str → Addr) : Sp := fun vs H Q E => ∃ (a : Addr) (ds : List Nat) (b most : Nat), vs = [.ref a, .int b, .int most] ∧ H a = some (.lst (nints ds)) ∧ ds.length ≤ 240 ∧ 2 ≤ b ∧ b ≤ 36 ∧ most ≤ 1000000 ∧ ∀ H' (ds' : List Nat) (g : Nat), ds'.length ≤ 240 → g ≤ most → Led (rmv H a) [(a, .lst (nints ds'))] H' → Q (.int g) H'
def sp__law_mirrored_to_d (K : PySem.W.Frag) (C : Str → Addr) : Sp := fun vs H Q E => ∃ n b : Nat, vs = [.int n, .int b] ∧ 2 ≤ b ∧ b ≤ 36 ∧ n ≤ 100000 ∧ ∀ p H', Led H [(p, .lst (nints (0 :: mirs b (n + 1))))] H' → Q (.ref p) H'
def sp__law_whole_d (K : PySem.W.Frag) (C : Str → Addr) : Sp := fun vs H Q E => ∃ x, vs = [x] ∧ Kn K H x ∧ Q (.bl (isInt x)) H
def t__law_draws_d (K : PySem.W.Frag) (C : Str → Addr) (E : XK) : TS :=
  (tSeq (tAsg (tLst tNil) (gName 1))
    (tSeq (tFor (iRng1 (tCons (tCB rMin2 (tCons (tCB (rLenL K) (tCons (tVar 0) tNil)) (tCons (tC (.int 80)) tNil))) tNil)) (gName 2) (tSeq (tAsg (tCB rAbs (tCons (tOp (rIxL K) (tVar 0) (tVar 2)) tNil)) (gName 3))
    (tIfS (tTest (tOp (rI0 fun i j => .bl (decide (i < j))) (tVar 3) (tOp (rI CPow fun i j => .int (i ^ j.toNat)) (tC (.int 10)) (tC (.int 18))))) (tSeq (tAsg (tOp (rI (fun _ j => 0 < j) fun i j => .int (i % j)) (tOp (rI CMul fun i j => .int (i * j)) (tOp (rI (fun _ j => 0 < j) fun i j => .int (i % j)) (tOp (rI0 fun i j => .int (i + j)) (tOp (rI0 fun i j => .int (i + j)) (tVar 3) (tOp (rI CMul fun i j => .int (i * j)) (tC (.int 7919)) (tVar 2))) (tC (.int 3))) (tC (.int 2147483647))) (tC (.int 48271))) (tC (.int 2147483647))) (gName 4))
    (tSeq (tAsg (tOp (rI (fun _ j => 0 < j) fun i j => .int (i % j)) (tOp (rI CMul fun i j => .int (i * j)) (tVar 4) (tVar 4)) (tC (.int 2147483629))) (gName 4))
    (tSeq (tDrop (tBM K "list" rAppend (tVar 1) (tCons (tOp (rI (fun _ j => 0 < j) fun i j => .int (i % j)) (tOp (rI CDiv fun i j => .int (i / j)) (tVar 4) (tC (.int 16))) (tC (.int 1000))) tNil)))
    (tSeq (tDrop (tBM K "list" rAppend (tVar 1) (tCons (tOp (rI (fun _ j => 0 < j) fun i j => .int (i % j)) (tOp (rI CDiv fun i j => .int (i / j)) (tVar 4) (tC (.int 16000))) (tC (.int 1000))) tNil)))
    (tSeq (tAsg (tOp (rI (fun _ j => 0 < j) fun i j => .int (i % j)) (tOp (rI0 fun i j => .int (i + j)) (tVar 4) (tOp (rI CMul fun i j => .int (i * j)) (tC (.int 40692)) (tOp (rI0 fun i j => .int (i + j)) (tVar 2) (tC (.int 7))))) (tC (.int 2147483587))) (gName 4))
    (tDrop (tBM K "list" rAppend (tVar 1) (tCons (tOp (rI (fun _ j => 0 < j) fun i j => .int (i % j)) (tOp (rI CDiv fun i j => .int (i / j)) (tOp (rI (fun _ j => 0 < j) fun i j => .int (i % j)) (tOp (rI CMul fun i j => .int (i * j)) (tVar 4) (tVar 4)) (tC (.int 2147483647))) (tC (.int 16))) (tC (.int 1000))) tNil)))))))) (tSeq (tAsg (tC (.int 0)) (gName 5))
    (tWhile (tAnd (tTest (tOp (rI0 fun i j => .bl (decide (j ≤ i))) (tVar 3) (tC (.int 1000)))) (tTest (tOp (rI0 fun i j => .bl (decide (i < j))) (tVar 5) (tC (.int 60))))) (tSeq (tDrop (tBM K "list" rAppend (tVar 1) (tCons (tOp (rI (fun _ j => 0 < j) fun i j => .int (i % j)) (tVar 3) (tC (.int 1000))) tNil)))
    (tSeq (tAsg (tOp (rI CDiv fun i j => .int (i / j)) (tVar 3) (tC (.int 1000))) (gName 3))
    (tAsg (tOp (rI0 fun i j => .int (i + j)) (tVar 5) (tC (.int 1))) (gName 5)))))))))
    (tRet (tSl (rSlL K) (tVar 1) tNoPart (tPart (tC (.int 240)))))))
def t__law_take_d (K : PySem.W.Frag) (C : Str → Addr) (E : XK) : TS :=
  (tSeq (tIfS (tTest (tOp (rEqLI K false) (tVar 0) (tLst tNil))) (tRet (tC (.int 0))) tNext)
    (tRet (tOp (rI (fun _ j => 0 < j) fun i j => .int (i % j)) (tBM K "list" rPopAt (tVar 0) (tCons (tC (.int 0)) tNil)) (tVar 1))))
def t__law_base_d (K : PySem.W.Frag) (C : Str → Addr) (E : XK) : TS :=
  (tRet (tOp (rIxL K) (tLst (tCons (tC (.int 10)) (tCons (tOp (rI0 fun i j => .int (i + j)) (tC (.int 2)) (tGo (sp__law_take_d K C) (fun _ => E0) (tCons (tVar 0) (tCons (tC (.int 35)) tNil)))) (tCons (tOp (rI0 fun i j => .int (i + j)) (tC (.int 2)) (tGo (sp__law_take_d K C) (fun _ => E0) (tCons (tVar 0) (tCons (tC (.int 35)) tNil)))) (tCons (tC (.int 2)) tNil))))) (tGo (sp__law_take_d K C) (fun _ => E0) (tCons (tVar 0) (tCons (tC (.int 4)) tNil)))))
def t__law_figures_d (K : PySem.W.Frag) (C : Str → Addr) (E : XK) : TS :=
  (tSeq (tAsg (tLst (tCons (tOp (rI (fun _ j => 0 < j) fun i j => .int (i % j)) (tVar 0) (tVar 1)) tNil)) (gName 2))
    (tSeq (tWhile (tTest (tOp (rI0 fun i j => .bl (decide (j ≤ i))) (tVar 0) (tVar 1))) (tSeq (tAsg (tOp (rI CDiv fun i j => .int (i / j)) (tVar 0) (tVar 1)) (gName 0))
    (tAsg (tOp rCat (tLst (tCons (tOp (rI (fun _ j => 0 < j) fun i j => .int (i % j)) (tVar 0) (tVar 1)) tNil)) (tVar 2)) (gName 2))))
    (tRet (tVar 2))))
def t__law_is_mirrored_d (K : PySem.W.Frag) (C : Str → Addr) (E : XK) : TS :=
  (tSeq (tAsg (tGo (sp__law_figures_d K C) (fun _ => E0) (tCons (tVar 0) (tCons (tVar 1) tNil))) (gName 2))
    (tRet (tOp (rEqLI K false) (tVar 2) (tRevL K (tVar 2)))))
def t__law_power_d (K : PySem.W.Frag) (C : Str → Addr) (E : XK) : TS :=
  (tSeq (tAsg (tC (.int 1)) (gName 2))
    (tSeq (tFor (iRng1 (tCons (tVar 1) tNil)) (gName 3) (tAsg (tOp (rI CMul fun i j => .int (i * j)) (tVar 2) (tVar 0)) (gName 2)))
    (tRet (tVar 2))))
def t__law_number_d (K : PySem.W.Frag) (C : Str → Addr) (E : XK) : TS :=
  (tSeq (tAsg (tOp (rI (fun _ j => 0 < j) fun i j => .int (i % j)) (tOp (rI0 fun i j => .int (i + j)) (tOp (rI CMul fun i j => .int (i * j)) (tGo (sp__law_take_d K C) (fun _ => E0) (tCons (tVar 0) (tCons (tC (.int 1000)) tNil))) (tC (.int 1000))) (tGo (sp__law_take_d K C) (fun _ => E0) (tCons (tVar 0) (tCons (tC (.int 1000)) tNil)))) (tOp (rI0 fun i j => .int (i + j)) (tVar 2) (tC (.int 1)))) (gName 3))
    (tSeq (tAsg (tGo (sp__law_power_d K C) (fun _ => E0) (tCons (tVar 1) (tCons (tGo (sp__law_take_d K C) (fun _ => E0) (tCons (tVar 0) (tCons (tC (.int 18)) tNil))) tNil))) (gName 4))
    (tSeq (tAsg (tLst (tCons (tGo (sp__law_take_d K C) (fun _ => E0) (tCons (tVar 0) (tCons (tC (.int 40)) tNil))) (tCons (tGo (sp__law_take_d K C) (fun _ => E0) (tCons (tVar 0) (tCons (tC (.int 1000)) tNil))) (tCons (tVar 3) (tCons (tVar 3) (tCons (tVar 3) (tCons (tVar 2) (tCons (tOp (rI0 fun i j => .int (i - j)) (tOp (rI0 fun i j => .int (i + j)) (tVar 4) (tGo (sp__law_take_d K C) (fun _ => E0) (tCons (tVar 0) (tCons (tC (.int 5)) tNil)))) (tC (.int 2))) tNil)))))))) (gName 5))
    (tSeq (tAsg (tOp (rIxL K) (tVar 5) (tGo (sp__law_take_d K C) (fun _ => E0) (tCons (tVar 0) (tCons (tC (.int 7)) tNil)))) (gName 6))
    (Evl.tCut (tIfS (tTest (tOp rEq (tGo (sp__law_take_d K C) (fun _ => E0) (tCons (tVar 0) (tCons (tC (.int 4)) tNil))) (tC (.int 1)))) (tSeq (tAsg (tGo (sp__law_figures_d K C) (fun _ => E0) (tCons (tCB rMin2 (tCons (tVar 6) (tCons (tVar 2) tNil))) (tCons (tVar 1) tNil))) (gName 7))
    (tSeq (tAsg (tC (.int 0)) (gName 6))
    (tSeq (tFor (iRng1 (tCons (tCB (rLenL K) (tCons (tVar 7) tNil)) tNil)) (gName 8) (tAsg (tOp (rI0 fun i j => .int (i + j)) (tOp (rI CMul fun i j => .int (i * j)) (tVar 6) (tVar 1)) (tOp (rIxL K) (tVar 7) (tCB rMin2 (tCons (tVar 8) (tCons (tOp (rI0 fun i j => .int (i - j)) (tOp (rI0 fun i j => .int (i - j)) (tCB (rLenL K) (tCons (tVar 7) tNil)) (tC (.int 1))) (tVar 8)) tNil))))) (gName 6)))
    (tAsg (tOp (rI0 fun i j => .int (i - j)) (tOp (rI0 fun i j => .int (i + j)) (tVar 6) (tGo (sp__law_take_d K C) (fun _ => E0) (tCons (tVar 0) (tCons (tC (.int 3)) tNil)))) (tC (.int 1))) (gName 6))))) tNext)
    (tRet (tCB rMax2 (tCons (tC (.int 0)) (tCons (tCB rMin2 (tCons (tVar 2) (tCons (tVar 6) tNil))) tNil)))))))))
def t__law_mirrored_to_d (K : PySem.W.Frag) (C : Str → Addr) (E : XK) : TS :=
  (tSeq (tAsg (tLst (tCons (tC (.int 0)) tNil)) (gName 2))
    (tSeq (tAsg (tC (.int 1)) (gName 3))
    (tSeq (tWhile (tTest (tOp (rI0 fun i j => .bl (decide (i ≤ j))) (tGo (sp__law_power_d K C) (fun _ => E0) (tCons (tVar 1) (tCons (tOp (rI0 fun i j => .int (i - j)) (tVar 3) (tC (.int 1))) tNil))) (tVar 0))) (tSeq (tAsg (tOp (rI CDiv fun i j => .int (i / j)) (tOp (rI0 fun i j => .int (i + j)) (tVar 3) (tC (.int 1))) (tC (.int 2))) (gName 4))
    (tSeq (tAsg (tGo (sp__law_power_d K C) (fun _ => E0) (tCons (tVar 1) (tCons (tOp (rI0 fun i j => .int (i - j)) (tVar 4) (tC (.int 1))) tNil))) (gName 5))
    (tSeq (tAsg (tC (.int 0)) (gName 6))
    (tSeq (tWhile (tAnd (tTest (tOp (rI0 fun i j => .bl (decide (i < j))) (tVar 5) (tGo (sp__law_power_d K C) (fun _ => E0) (tCons (tVar 1) (tCons (tVar 4) tNil))))) (tTest (tOp (rI0 fun i j => .bl (decide (i ≤ j))) (tVar 6) (tVar 0)))) (tSeq (tAsg (tVar 5) (gName 6))
    (tSeq (tAsg (tOp (rIxL K) (tLst (tCons (tOp (rI CDiv fun i j => .int (i / j)) (tVar 5) (tVar 1)) (tCons (tVar 5) tNil))) (tCB rInt1 (tCons (tOp rEq (tOp (rI (fun _ j => 0 < j) fun i j => .int (i % j)) (tVar 3) (tC (.int 2))) (tC (.int 0))) tNil))) (gName 7))
    (tSeq (tWhile (tTest (tOp (rI0 fun i j => .bl (decide (j < i))) (tVar 7) (tC (.int 0)))) (tSeq (tAsg (tOp (rI0 fun i j => .int (i + j)) (tOp (rI CMul fun i j => .int (i * j)) (tVar 6) (tVar 1)) (tOp (rI (fun _ j => 0 < j) fun i j => .int (i % j)) (tVar 7) (tVar 1))) (gName 6))
    (tAsg (tOp (rI CDiv fun i j => .int (i / j)) (tVar 7) (tVar 1)) (gName 7))))
    (Evl.tCut (tIfS (tTest (tOp (rI0 fun i j => .bl (decide (i ≤ j))) (tVar 6) (tVar 0))) (tDrop (tBM K "list" rAppend (tVar 2) (tCons (tVar 6) tNil))) tNext)
    (tAsg (tOp (rI0 fun i j => .int (i + j)) (tVar 5) (tC (.int 1))) (gName 5)))))))
    (tAsg (tOp (rI0 fun i j => .int (i + j)) (tVar 3) (tC (.int 1))) (gName 3)))))))
    (tRet (tVar 2)))))
def t__law_whole_d (K : PySem.W.Frag) (C : Str → Addr) (E : XK) : TS :=
  (tRet (tAndV (tCB (rIsiY K) (tCons (tVar 0) (tCons (tC (.ty "int")) tNil))) (tNotV (tCB (rIsiY K) (tCons (tVar 0) (tCons (tC (.ty "bool")) tNil))))))
end Mi

/-! papers -/
namespace Mi
variable {b : Nat}
/-- the places at which the figures are otherwise than from behind -/
def unl (b m : Nat) : List Nat := (List.range (ln b m)).filter fun k => decide ((figs b m).getD k 0 ≠ (figs b m).getD (ln b m - 1 - k) 0)
def firsts (b n : Nat) : List Nat := 0 :: mirs b (n / 2 + 1)
def pap (b n : Nat) : Option (List (Nat × Nat)) := if (firsts b n).all (fun m => !(unl b (n - m)).isEmpty) then some ((firsts b n).map fun m => (m, (unl b (n - m)).headD 0)) else none
theorem firsts_le {n m : Nat} (h : m ∈ firsts b n) : 2 * m ≤ n := by
  rcases List.mem_cons.mp h with z | z
  · omega
  · have := (mirs_mem.mp z).1
    omega
theorem firsts_len {n : Nat} : (firsts b n).length ≤ n / 2 + 2 := by
  have := mirs_len (b := b) (n := n / 2 + 1)
  show (mirs b (n / 2 + 1)).length + 1 ≤ _
  omega
theorem unl_mem {m k : Nat} : k ∈ unl b m ↔ k < ln b m ∧ (figs b m).getD k 0 ≠ (figs b m).getD (ln b m - 1 - k) 0 := by
  unfold unl
  rw [List.mem_filter, List.mem_range, decide_eq_true_eq]
/-- the first such place, by going -/
theorem unl_none {m : Nat} (h : ∀ k, k < ln b m → (figs b m).getD k 0 = (figs b m).getD (ln b m - 1 - k) 0) : unl b m = [] := by
  refine List.filter_eq_nil_iff.mpr fun k hk => ?_
  rw [decide_eq_true_eq]
  exact fun z => z (h k (List.mem_range.mp hk))
theorem unl_first {m k : Nat} (h : ∀ j, j < k → (figs b m).getD j 0 = (figs b m).getD (ln b m - 1 - j) 0) (hk : k < ln b m) (hne : (figs b m).getD k 0 ≠ (figs b m).getD (ln b m - 1 - k) 0) : ∃ r, unl b m = k :: r := by
  unfold unl
  obtain ⟨d, hd⟩ : ∃ d, ln b m = k + 1 + d := ⟨ln b m - (k + 1), by omega⟩
  have e : List.range (ln b m) = List.range k ++ k :: (List.range d).map (fun x => k + 1 + x) := by
    rw [hd, List.range_add, List.range_succ, List.append_assoc]
    rfl
  have h0 : (List.range k).filter (fun k => decide ((figs b m).getD k 0 ≠ (figs b m).getD (ln b m - 1 - k) 0)) = [] := by
    refine List.filter_eq_nil_iff.mpr fun j hj => ?_
    rw [decide_eq_true_eq]
    exact fun z => z (h j (List.mem_range.mp hj))
  have e2 : (List.range (ln b m)).filter (fun k => decide ((figs b m).getD k 0 ≠ (figs b m).getD (ln b m - 1 - k) 0)) = k :: (((List.range d).map (fun x => k + 1 + x)).filter (fun k => decide ((figs b m).getD k 0 ≠ (figs b m).getD (ln b m - 1 - k) 0))) := by
    rw [e, List.filter_append, h0, List.nil_append, List.filter_cons, if_pos (decide_eq_true hne)]
  exact ⟨_, e2⟩
/-- a row by its parts -/
def rowB (b n one : Nat) (i j : Int) : Bool := decide (i = (one : Nat)) && (decide (0 ≤ j) && (decide (j < (ln b (n - one) : Nat)) && decide ((figs b (n - one)).getD j.toNat 0 ≠ (figs b (n - one)).getD (ln b (n - one) - 1 - j.toNat) 0)))
theorem rowB_iff {n one : Nat} {i j : Int} : rowB b n one i j = true ↔ i = (one : Nat) ∧ ∃ k : Nat, j = (k : Nat) ∧ k ∈ unl b (n - one) := by
  unfold rowB
  rw [Bool.and_eq_true, Bool.and_eq_true, Bool.and_eq_true, decide_eq_true_eq, decide_eq_true_eq, decide_eq_true_eq, decide_eq_true_eq]
  constructor
  · rintro ⟨h1, h2, h3, h4⟩
    exact ⟨h1, j.toNat, by omega, unl_mem.mpr ⟨by omega, h4⟩⟩
  · rintro ⟨h1, k, rfl, hk⟩
    obtain ⟨h2, h3⟩ := unl_mem.mp hk
    exact ⟨h1, by omega, by omega, by simpa using h3⟩
end Mi

namespace Mi
open PySem PySem.Spec PyProof.Rows L2
/-- a thing that may be a row: a tuple of parts, or none -/
def Rw (K : PySem.W.Frag) (H : Hp) (y : V) : Option (List V) → Prop
  | some ps => ∃ a, y = .ref a ∧ SqT K H a ps ∧ ps.length ≤ 1000 ∧ ∀ z ∈ ps, Kn K H z
  | none => ∃ t, TyY K H y t ∧ PySem.W.kitOne K t (.type "tuple") = some false
def rowV (b n one : Nat) : Option (List V) → Bool
  | some ps => (match ps with
    | [x, y] => (match x, y with
      | .int i, .int j => rowB b n one i j
      | _, _ => false)
    | _ => false)
  | none => false
def tupF (as : List Addr) (ps : List (Nat × Nat)) : List (Addr × HO) := as.zip (ps.map fun x => .tup [.int (x.1 : Nat), .int (x.2 : Nat)])
/-- rows: the tuples, the lists of places -/
def rwF (b n : Nat) : List Addr → List Addr → List Nat → List (Addr × HO)
  | a :: as, l :: ls, m :: ms => (a, .tup [.int (m : Nat), .ref l]) :: (l, .lst (nints (unl b (n - m)))) :: rwF b n as ls ms
  | _, _, _ => []
def sp_first_unlike (K : PySem.W.Frag) (C : Str → Addr) : Sp := fun vs H Q E => ∃ n b : Nat, vs = [.int n, .int b] ∧ 2 ≤ b ∧ b ≤ 36 ∧ n < lim ∧ ∀ H', Led H [] H' → (unl b n = [] → Q .non H') ∧ (∀ k r, unl b n = k :: r → Q (.int (k : Nat)) H')
def sp_firsts_of (K : PySem.W.Frag) (C : Str → Addr) : Sp := fun vs H Q E => ∃ n b : Nat, vs = [.int n, .int b] ∧ 2 ≤ b ∧ b ≤ 36 ∧ n ≤ 1000000 ∧ ∀ p H', Led H [(p, .lst (nints (firsts b n)))] H' → Q (.ref p) H'
def sp_paper_of (K : PySem.W.Frag) (C : Str → Addr) : Sp := fun vs H Q E => ∃ n b : Nat, vs = [.int n, .int b] ∧ 2 ≤ b ∧ b ≤ 36 ∧ n ≤ 1000000 ∧ (pap b n = none → ∀ H', Led H [] H' → Q .non H') ∧
  (∀ ps, pap b n = some ps → ∀ p as H', as.length = ps.length → Led H ((p, .lst (as.map V.ref)) :: tupF as ps) H' → Q (.ref p) H')
def sp_is_row (K : PySem.W.Frag) (C : Str → Addr) : Sp := fun vs H Q E => ∃ (n b one : Nat) (y : V) (r : Option (List V)), vs = [.int n, .int b, .int one, y] ∧ 2 ≤ b ∧ b ≤ 36 ∧ n ≤ 1000000 ∧ one ≤ n ∧ Rw K H y r ∧ ∀ H', Led H [] H' → Q (.bl (rowV b n one r)) H'
def sp_is_paper (K : PySem.W.Frag) (C : Str → Addr) : Sp := fun vs H Q E => ∃ (n b : Nat) (y : V), vs = [.int n, .int b, y] ∧ 2 ≤ b ∧ b ≤ 36 ∧ n ≤ 1000000 ∧
  ((∃ a xs rs, y = .ref a ∧ H a = some (.lst xs) ∧ xs.length = rs.length ∧ (∀ (i : Nat) x r, xs[i]? = some x → rs[i]? = some r → Rw K H x r) ∧ ∀ H', Led H [] H' → Q (.bl (decide (xs.length = (firsts b n).length) && ((firsts b n).zip rs).all fun z => rowV b n z.1 z.2)) H') ∨
   (∃ t, TyY K H y t ∧ PySem.W.kitOne K t (.type "list") = some false ∧ ∀ H', Led H [] H' → Q (.bl false) H'))
def sp__law_unlike_d (K : PySem.W.Frag) (C : Str → Addr) : Sp := fun vs H Q E => ∃ n b : Nat, vs = [.int n, .int b] ∧ 2 ≤ b ∧ b ≤ 36 ∧ n < lim ∧ ∀ p H', Led H [(p, .lst (nints (unl b n)))] H' → Q (.ref p) H'
def sp__law_rows_d (K : PySem.W.Frag) (C : Str → Addr) : Sp := fun vs H Q E => ∃ n b : Nat, vs = [.int n, .int b] ∧ 2 ≤ b ∧ b ≤ 36 ∧ n ≤ 200000 ∧ ∀ p as ls H', as.length = (firsts b n).length → ls.length = (firsts b n).length → Led H ((p, .lst (as.map V.ref)) :: rwF b n as ls (firsts b n)) H' → Q (.ref p) H'
def sp__law_paper_d (K : PySem.W.Frag) (C : Str → Addr) : Sp := fun vs H Q E => ∃ (n b : Nat) (p : Addr) (as ls : List Addr), vs = [.ref p] ∧ as.length = (firsts b n).length ∧ ls.length = (firsts b n).length ∧ n ≤ 200000 ∧ (∀ x ∈ (p, HO.lst (as.map V.ref)) :: rwF b n as ls (firsts b n), H x.1 = some x.2) ∧ (pap b n = none → ∀ H', Led H [] H' → Q .non H') ∧
  (∀ ps, pap b n = some ps → ∀ p as H', as.length = ps.length → Led H ((p, .lst (as.map V.ref)) :: tupF as ps) H' → Q (.ref p) H')
def sp__law_hard_d (K : PySem.W.Frag) (C : Str → Addr) : Sp := fun vs H Q E => ∃ (a : Addr) (ds : List Nat) (b most : Nat), vs = [.ref a, .int b, .int most] ∧ H a = some (.lst (nints ds)) ∧ ds.length ≤ 240 ∧ 2 ≤ b ∧ b ≤ 36 ∧ 1 ≤ most ∧ most ≤ 100000 ∧ ∀ H' (ds' : List Nat) (g : Nat), ds'.length ≤ 240 → 1 ≤ g → g ≤ most → Led (rmv H a) [(a, .lst (nints ds'))] H' → Q (.int g) H'
def t_first_unlike (K : PySem.W.Frag) (C : Str → Addr) (E : XK) : TS :=
  (tSeq (tAsg (tGo (sp_figures K C) (fun _ => E0) (tCons (tVar 0) (tCons (tVar 1) tNil))) (gName 2))
    (tSeq (tFor (iEnum K (tCons (tVar 2) tNil)) (gTup K 2 (gCons (gName 3) (gCons (gName 4) gNil))) (tIfS (tTest (tOp rNe (tVar 4) (tOp (rIxL K) (tVar 2) (tOp (rI0 fun i j => .int (i - j)) (tOp (rI0 fun i j => .int (i - j)) (tCB (rLenL K) (tCons (tVar 2) tNil)) (tC (.int 1))) (tVar 3))))) (tRet (tVar 3)) tNext))
    (tRet (tC .non))))
def t_firsts_of (K : PySem.W.Frag) (C : Str → Addr) (E : XK) : TS :=
  (tSeq (tAsg (tLst tNil) (gName 2))
    (tSeq (tAsg (tC (.int 0)) (gName 3))
    (tSeq (tWhile (tTest (tOp (rI0 fun i j => .bl (decide (i ≤ j))) (tOp (rI CMul fun i j => .int (i * j)) (tC (.int 2)) (tVar 3)) (tVar 0))) (tSeq (tDrop (tBM K "list" rAppend (tVar 2) (tCons (tVar 3) tNil)))
    (tAsg (tGo (sp_at_least K C) (fun _ => E0) (tCons (tOp (rI0 fun i j => .int (i + j)) (tVar 3) (tC (.int 1))) (tCons (tVar 1) tNil))) (gName 3))))
    (tRet (tVar 2)))))
def t_paper_of (K : PySem.W.Frag) (C : Str → Addr) (E : XK) : TS :=
  (tSeq (tAsg (tLst tNil) (gName 2))
    (tSeq (tFor (iList K (tGo (sp_firsts_of K C) (fun _ => E0) (tCons (tVar 0) (tCons (tVar 1) tNil)))) (gName 3) (tSeq (tAsg (tGo (sp_first_unlike K C) (fun _ => E0) (tCons (tOp (rI0 fun i j => .int (i - j)) (tVar 0) (tVar 3)) (tCons (tVar 1) tNil))) (gName 4))
    (tSeq (tIfS (tTest (tOp rIsN (tVar 4) (tC .non))) (tRet (tC .non)) tNext)
    (tDrop (tBM K "list" rAppend (tVar 2) (tCons (tTup (tCons (tVar 3) (tCons (tVar 4) tNil))) tNil))))))
    (tRet (tVar 2))))
def t_is_row (K : PySem.W.Frag) (C : Str → Addr) (E : XK) : TS :=
  (tSeq (tIfS (tOr (tNot (tB (tCB (rIsiY K) (tCons (tVar 3) (tCons (tC (.ty "tuple")) tNil))))) (tTest (tOp rNe (tCB (rLenL K) (tCons (tVar 3) tNil)) (tC (.int 2))))) (tRet (tC (.bl false))) tNext)
    (tSeq (tIfS (tOr (tTest (tOp (rEqNil K true) (tLc (iTup K (tVar 3)) (gName 5) (tOr (tNot (tB (tCB (rIsiY K) (tCons (tVar 5) (tCons (tC (.ty "int")) tNil))))) (tB (tCB (rIsiY K) (tCons (tVar 5) (tCons (tC (.ty "bool")) tNil))))) (tVar 5) [5]) (tLst tNil))) (tTest (tOp rNe (tOp (rIxT K) (tVar 3) (tC (.int 0))) (tVar 2)))) (tRet (tC (.bl false))) tNext)
    (tSeq (tAsg (tGo (sp_figures K C) (fun _ => E0) (tCons (tOp (rI0 fun i j => .int (i - j)) (tVar 0) (tVar 2)) (tCons (tVar 1) tNil))) (gName 4))
    (tRet (tAndV (tChain (rI0 fun i j => .bl (decide (i ≤ j))) (rI0 fun i j => .bl (decide (i < j))) (tC (.int 0)) (tOp (rIxT K) (tVar 3) (tC (.int 1))) (tCB (rLenL K) (tCons (tVar 4) tNil))) (tOp rNe (tOp (rIxL K) (tVar 4) (tOp (rIxT K) (tVar 3) (tC (.int 1)))) (tOp (rIxL K) (tVar 4) (tOp (rI0 fun i j => .int (i - j)) (tOp (rI0 fun i j => .int (i - j)) (tCB (rLenL K) (tCons (tVar 4) tNil)) (tC (.int 1))) (tOp (rIxT K) (tVar 3) (tC (.int 1)))))))))))
def t_is_paper (K : PySem.W.Frag) (C : Str → Addr) (E : XK) : TS :=
  (tSeq (tDrop (tGo (sp_is_mirrored K C) (fun _ => E0) (tCons (tVar 0) (tCons (tVar 1) tNil))))
    (tSeq (tIfS (tNot (tB (tCB (rIsiY K) (tCons (tVar 2) (tCons (tC (.ty "list")) tNil))))) (tRet (tC (.bl false))) tNext)
    (tSeq (tAsg (tGo (sp_firsts_of K C) (fun _ => E0) (tCons (tVar 0) (tCons (tVar 1) tNil))) (gName 3))
    (tSeq (tIfS (tTest (tOp rNe (tCB (rLenL K) (tCons (tVar 2) tNil)) (tCB (rLenL K) (tCons (tVar 3) tNil)))) (tRet (tC (.bl false))) tNext)
    (tRet (tOp (rEqLI K false) (tLc (iZip K (tCons (tVar 3) (tCons (tVar 2) tNil))) (gTup K 2 (gCons (gName 4) (gCons (gName 5) gNil))) (tNot (tB (tGo (sp_is_row K C) (fun _ => E0) (tCons (tVar 0) (tCons (tVar 1) (tCons (tVar 4) (tCons (tVar 5) tNil))))))) (tVar 4) [4, 5]) (tLst tNil)))))))
def t__law_unlike_d (K : PySem.W.Frag) (C : Str → Addr) (E : XK) : TS :=
  (tSeq (tAsg (tGo (sp__law_figures_d K C) (fun _ => E0) (tCons (tVar 0) (tCons (tVar 1) tNil))) (gName 2))
    (tRet (tLc (iRng1 (tCons (tCB (rLenL K) (tCons (tVar 2) tNil)) tNil)) (gName 3) (tTest (tOp rNe (tOp (rIxL K) (tVar 2) (tVar 3)) (tOp (rIxL K) (tVar 2) (tOp (rI0 fun i j => .int (i - j)) (tOp (rI0 fun i j => .int (i - j)) (tCB (rLenL K) (tCons (tVar 2) tNil)) (tC (.int 1))) (tVar 3))))) (tVar 3) [3])))
def t__law_rows_d (K : PySem.W.Frag) (C : Str → Addr) (E : XK) : TS :=
  (tRet (tLc (iList K (tGo (sp__law_mirrored_to_d K C) (fun _ => E0) (tCons (tOp (rI CDiv fun i j => .int (i / j)) (tVar 0) (tC (.int 2))) (tCons (tVar 1) tNil)))) (gName 2) tYes (tTup (tCons (tVar 2) (tCons (tGo (sp__law_unlike_d K C) (fun _ => E0) (tCons (tOp (rI0 fun i j => .int (i - j)) (tVar 0) (tVar 2)) (tCons (tVar 1) tNil))) tNil))) [2]))
def t__law_paper_d (K : PySem.W.Frag) (C : Str → Addr) (E : XK) : TS :=
  (tSeq (tIfS (tTest (tOp (rEqLI K true) (tLc (iList K (tVar 0)) (gTup K 2 (gCons (gName 1) (gCons (gName 2) gNil))) (tTest (tOp (rEqLI K false) (tVar 2) (tLst tNil))) (tVar 1) [1, 2]) (tLst tNil))) (tRet (tC .non)) tNext)
    (tRet (tLc (iList K (tVar 0)) (gTup K 2 (gCons (gName 1) (gCons (gName 2) gNil))) tYes (tTup (tCons (tVar 1) (tCons (tOp (rIxL K) (tVar 2) (tC (.int 0))) tNil))) [1, 2])))
def t__law_hard_d (K : PySem.W.Frag) (C : Str → Addr) (E : XK) : TS :=
  (tSeq (tAsg (tCB rMax2 (tCons (tC (.int 1)) (tCons (tGo (sp__law_number_d K C) (fun _ => E0) (tCons (tVar 0) (tCons (tVar 1) (tCons (tVar 2) tNil)))) tNil))) (gName 3))
    (Evl.tCut (tIfS (tTest (tOp (rI0 fun i j => .bl (decide (j < i))) (tGo (sp__law_take_d K C) (fun _ => E0) (tCons (tVar 0) (tCons (tC (.int 3)) tNil))) (tC (.int 0)))) (tFor (iRng1 (tCons (tC (.int 30)) tNil)) (gName 4) (tIfS (tAnd (tTest (tOp (rI0 fun i j => .bl (decide (i ≤ j))) (tOp (rI0 fun i j => .int (i + j)) (tVar 3) (tVar 4)) (tVar 2))) (tTest (tOp rNotN (tGo (sp__law_paper_d K C) (fun _ => E0) (tCons (tGo (sp__law_rows_d K C) (fun _ => E0) (tCons (tOp (rI0 fun i j => .int (i + j)) (tVar 3) (tVar 4)) (tCons (tVar 1) tNil))) tNil)) (tC .non)))) (tRet (tOp (rI0 fun i j => .int (i + j)) (tVar 3) (tVar 4))) tNext)) tNext)
    (tRet (tVar 3))))
end Mi

namespace Mi
open PySem PySem.Spec PyProof.Rows L2
def t_power_of (K : PySem.W.Frag) (C : Str → Addr) (E : XK) : TS :=
  (tSeq (tAsg (tC (.int 1)) (gName 2))
    (tSeq (tFor (iRng1 (tCons (tVar 1) tNil)) (gName 3) (tAug 2 (tVar 0) (rI CMul fun i j => .int (i * j))))
    (tRet (tVar 2))))
def t_half_of (K : PySem.W.Frag) (C : Str → Addr) (E : XK) : TS :=
  (tSeq (tAsg (tGo (sp_figures_of K C) (fun _ => E0) (tCons (tVar 0) (tCons (tVar 1) tNil))) (gName 2))
    (tRet (tTup (tCons (tCB (rLenL K) (tCons (tVar 2) tNil)) (tCons (tGo (sp_put_together K C) (fun _ => E0) (tCons (tSl (rSlL K) (tVar 2) tNoPart (tPart (tOp (rI CDiv fun i j => .int (i / j)) (tOp (rI0 fun i j => .int (i + j)) (tCB (rLenL K) (tCons (tVar 2) tNil)) (tC (.int 1))) (tC (.int 2))))) (tCons (tVar 1) tNil))) tNil)))))
def t_mirror_of (K : PySem.W.Frag) (C : Str → Addr) (E : XK) : TS :=
  (tSeq (tAsg (tGo (sp_figures_of K C) (fun _ => E0) (tCons (tVar 0) (tCons (tVar 2) tNil))) (gName 3))
    (tRet (tGo (sp_put_together K C) (fun _ => E0) (tCons (tOp rCat (tVar 3) (tRevL K (tSl (rSlL K) (tVar 3) tNoPart (tPart (tOp (rI CDiv fun i j => .int (i / j)) (tVar 1) (tC (.int 2))))))) (tCons (tVar 2) tNil)))))
def t_at_most (K : PySem.W.Frag) (C : Str → Addr) (E : XK) : TS :=
  (tSeq (tDrop (tGo (sp_need_base K C) (fun _ => E) (tCons (tVar 1) tNil)))
    (tSeq (tAsg (tGo (sp_half_of K C) (fun _ => E0) (tCons (tVar 0) (tCons (tVar 1) tNil))) (gTup K 2 (gCons (gName 2) (gCons (gName 3) gNil))))
    (tSeq (tIfS (tTest (tOp (rI0 fun i j => .bl (decide (i ≤ j))) (tGo (sp_mirror_of K C) (fun _ => E0) (tCons (tVar 3) (tCons (tVar 2) (tCons (tVar 1) tNil)))) (tVar 0))) (tRet (tGo (sp_mirror_of K C) (fun _ => E0) (tCons (tVar 3) (tCons (tVar 2) (tCons (tVar 1) tNil))))) tNext)
    (tSeq (tIfS (tTest (tOp rEq (tVar 3) (tGo (sp_power_of K C) (fun _ => E0) (tCons (tVar 1) (tCons (tOp (rI CDiv fun i j => .int (i / j)) (tOp (rI0 fun i j => .int (i - j)) (tVar 2) (tC (.int 1))) (tC (.int 2))) tNil))))) (tRet (tOp (rI0 fun i j => .int (i - j)) (tGo (sp_power_of K C) (fun _ => E0) (tCons (tVar 1) (tCons (tOp (rI0 fun i j => .int (i - j)) (tVar 2) (tC (.int 1))) tNil))) (tC (.int 1)))) tNext)
    (tRet (tGo (sp_mirror_of K C) (fun _ => E0) (tCons (tOp (rI0 fun i j => .int (i - j)) (tVar 3) (tC (.int 1))) (tCons (tVar 2) (tCons (tVar 1) tNil)))))))))
def t_at_least (K : PySem.W.Frag) (C : Str → Addr) (E : XK) : TS :=
  (tSeq (tDrop (tGo (sp_need_base K C) (fun _ => E) (tCons (tVar 1) tNil)))
    (tSeq (tAsg (tGo (sp_half_of K C) (fun _ => E0) (tCons (tVar 0) (tCons (tVar 1) tNil))) (gTup K 2 (gCons (gName 2) (gCons (gName 3) gNil))))
    (tRet (tGo (sp_mirror_of K C) (fun _ => E0) (tCons (tOp (rI0 fun i j => .int (i + j)) (tVar 3) (tCB rInt1 (tCons (tOp (rI0 fun i j => .bl (decide (i < j))) (tGo (sp_mirror_of K C) (fun _ => E0) (tCons (tVar 3) (tCons (tVar 2) (tCons (tVar 1) tNil)))) (tVar 0)) tNil))) (tCons (tVar 2) (tCons (tVar 1) tNil)))))))
def t_many_of_size (K : PySem.W.Frag) (C : Str → Addr) (E : XK) : TS :=
  (tRet (tOp (rI CMul fun i j => .int (i * j)) (tOp (rI0 fun i j => .int (i - j)) (tVar 1) (tC (.int 1))) (tGo (sp_power_of K C) (fun _ => E0) (tCons (tVar 1) (tCons (tOp (rI CDiv fun i j => .int (i / j)) (tOp (rI0 fun i j => .int (i - j)) (tVar 0) (tC (.int 1))) (tC (.int 2))) tNil)))))
def t_many_to (K : PySem.W.Frag) (C : Str → Addr) (E : XK) : TS :=
  (tSeq (tDrop (tGo (sp_need_base K C) (fun _ => E) (tCons (tVar 1) tNil)))
    (tSeq (tIfS (tTest (tOp rEq (tVar 0) (tC (.int 0)))) (tRet (tC (.int 0))) tNext)
    (tSeq (tAsg (tGo (sp_half_of K C) (fun _ => E0) (tCons (tVar 0) (tCons (tVar 1) tNil))) (gTup K 2 (gCons (gName 3) (gCons (gName 4) gNil))))
    (tSeq (tAsg (tOp (rI0 fun i j => .int (i + j)) (tOp (rI0 fun i j => .int (i - j)) (tVar 4) (tGo (sp_power_of K C) (fun _ => E0) (tCons (tVar 1) (tCons (tOp (rI CDiv fun i j => .int (i / j)) (tOp (rI0 fun i j => .int (i - j)) (tVar 3) (tC (.int 1))) (tC (.int 2))) tNil)))) (tCB rInt1 (tCons (tOp (rI0 fun i j => .bl (decide (i ≤ j))) (tGo (sp_mirror_of K C) (fun _ => E0) (tCons (tVar 4) (tCons (tVar 3) (tCons (tVar 1) tNil)))) (tVar 0)) tNil))) (gName 2))
    (tRet (tOp (rI0 fun i j => .int (i + j)) (tVar 2) (tCB (rSum K) (tCons (tLc (iRng2 (tCons (tC (.int 1)) (tCons (tVar 3) tNil))) (gName 5) tYes (tGo (sp_many_of_size K C) (fun _ => E0) (tCons (tVar 5) (tCons (tVar 1) tNil))) [5]) tNil))))))))
def t_mirrored_at (K : PySem.W.Frag) (C : Str → Addr) (E : XK) : TS :=
  (tSeq (tDrop (tGo (sp_need_base K C) (fun _ => E) (tCons (tVar 1) tNil)))
    (tSeq (tIfS (tTest (tOp rEq (tVar 0) (tC (.int 0)))) (tRet (tC (.int 0))) tNext)
    (tSeq (tAsg (tOp (rI0 fun i j => .int (i - j)) (tVar 0) (tC (.int 1))) (gName 2))
    (tSeq (tAsg (tC (.int 1)) (gName 3))
    (tSeq (tWhile (tTest (tOp (rI0 fun i j => .bl (decide (j ≤ i))) (tVar 2) (tGo (sp_many_of_size K C) (fun _ => E0) (tCons (tVar 3) (tCons (tVar 1) tNil))))) (tSeq (tAug 2 (tGo (sp_many_of_size K C) (fun _ => E0) (tCons (tVar 3) (tCons (tVar 1) tNil))) (ipI fun i j => i - j))
    (tAug 3 (tC (.int 1)) (ipI fun i j => i + j))))
    (tRet (tGo (sp_mirror_of K C) (fun _ => E0) (tCons (tOp (rI0 fun i j => .int (i + j)) (tGo (sp_power_of K C) (fun _ => E0) (tCons (tVar 1) (tCons (tOp (rI CDiv fun i j => .int (i / j)) (tOp (rI0 fun i j => .int (i - j)) (tVar 3) (tC (.int 1))) (tC (.int 2))) tNil))) (tVar 2)) (tCons (tVar 3) (tCons (tVar 1) tNil))))))))))
def t_is_mirrored (K : PySem.W.Frag) (C : Str → Addr) (E : XK) : TS :=
  (tSeq (tDrop (tGo (sp_need_base K C) (fun _ => E) (tCons (tVar 1) tNil)))
    (tSeq (tIfS (tOr (tNot (tB (tGo (sp_is_whole K C) (fun _ => E0) (tCons (tVar 0) tNil)))) (tTest (tOp (rI0 fun i j => .bl (decide (i < j))) (tVar 0) (tC (.int 0))))) (tRet (tC (.bl false))) tNext)
    (tSeq (tAsg (tGo (sp_figures_of K C) (fun _ => E0) (tCons (tVar 0) (tCons (tVar 1) tNil))) (gName 2))
    (tRet (tOp (rEqLI K false) (tVar 2) (tRevL K (tVar 2)))))))
def t_place_of (K : PySem.W.Frag) (C : Str → Addr) (E : XK) : TS :=
  (tSeq (tIfS (tNot (tB (tGo (sp_is_mirrored K C) (fun _ => E) (tCons (tVar 0) (tCons (tVar 1) tNil))))) (tRaise0 E (.ref (C "NoMirror"))) tNext)
    (tRet (tGo (sp_many_to K C) (fun _ => E) (tCons (tVar 0) (tCons (tVar 1) tNil)))))
end Mi

namespace Mi
open PySem PySem.Spec PyProof.Rows L2
local macro_rules
  | `(tactic| walk_at "w") => `(tactic| try simp only [a_seq, a_next, a_asg, a_name, a_var, a_c, a_op, a_un, a_rI, a_rI0, a_rU, a_ret, a_retN, a_ifS, a_drop, a_aug, a_ipI, a_test, a_B, a_and, a_or, a_not, a_andV, a_orV, a_notV, a_ifE, a_nil, a_cons, a_lst, a_tup, a_cb, a_go, a_bm, a_bm0, a_sl, a_po, a_pn,
      a_gsub, a_gnil, a_gcons, a_gtup, a_chain, a_eq, a_ne, a_yes, a_revL, a_slL, a_ixL, a_ixT, a_append, a_setL, a_cat, a_for, a_lc, a_iL, a_iT, a_iR1, a_iR2, a_iE, a_iZ, a_iS, b_lenL, b_int1b, b_int1i, b_listOf, b_max2, b_min2, b_sum, b_rep, b_eqLI0, b_eqLI1, b_isN, b_notN, b_listEnum, b_raise0,
      List.getElem?_cons_zero, List.getElem?_cons_succ, List.set_cons_zero, List.set_cons_succ, Option.some.injEq, V.int.injEq, V.ref.injEq, V.bl.injEq, V.str.injEq, List.cons.injEq, and_true, true_and, exists_eq_left', exists_eq_left, exists_eq_right, exists_eq_right', exists_and_left, exists_eq', exists_eq, decide_eq_true_eq, scal_ii, scal_bb, scal_ss, wipe, ↓reduceIte, reduceCtorEq,
      Bool.not_eq_true', decide_eq_false_iff_not, List.length_cons, List.length_nil, Nat.zero_add, CDiv, CMul, CPow])
local macro_rules
  | `(tactic| walk_at "z") => `(tactic| first | omega | (rw [sizeLine_eq]; simp only [List.length_append, List.length_map, List.length_cons, List.length_nil, List.length_reverse, nints]; omega) | decide | (simp only [List.length_append, List.length_map, List.length_cons, List.length_nil]; omega))
section
variable {K : PySem.W.Frag} {C : Str → Addr} {H B : Hp} {Q : VK} {E : XK} {F : List (Addr × HO)} {vs : List V}
theorem rd_power_of (h : sp_power_of K C vs H Q E) : t_power_of K C E (fin Q) (start ["base", "many", "found", "turn"] vs) H := by
  obtain ⟨b, m, rfl, hb, hm, q⟩ := h
  show t_power_of K C E (fin Q) [some (.int b), some (.int m), none, none] H
  unfold t_power_of
  walk_at "w"
  refine ⟨by omega, by omega, for_r (fun i σ H1 => H1 = H ∧ ∃ y, σ = [some (.int b), some (.int m), some (.int ((b ^ i : Nat))), y]) ⟨rfl, none, by simp⟩ ?_ ?_⟩
  · rintro N hN i σ H1 hi ⟨rfl, y, rfl⟩
    walk_at "w"
    have h1 : i < m := by omega
    refine ⟨by omega, hN _ _ _ ⟨rfl, some (.int (0 + (i : Int))), ?_⟩⟩
    rw [Nat.pow_succ]
    simp
  · rintro σ H1 ⟨rfl, y, rfl⟩
    walk_at "w"
    rw [show (m : Int).toNat = m by omega]
    exact q
theorem use_pow {b m : Nat} (hb : b ≤ 36) (hm : m ≤ 100000) (q : Q (.int ((b ^ m : Nat))) H) : sp_power_of K C [.int b, .int m] H Q E := ⟨b, m, rfl, hb, hm, q⟩
theorem rd_half_of (h : sp_half_of K C vs H Q E) : t_half_of K C E (fin Q) (start ["number", "base", "some"] vs) H := by
  obtain ⟨n, b, rfl, hb, hb2, hn, q⟩ := h
  show t_half_of K C E (fin Q) [some (.int n), some (.int b), none] H
  unfold t_half_of
  walk_at "w"
  refine ⟨n, b, rfl, hb, hb2, hn, fun p1 H1 L1 => ?_⟩
  walk_at "w"
  refine ⟨_, .inl (L1.sqI 0 rfl), _, .inl (L1.sqI 0 rfl), by decide, _, L1.sqI 0 rfl, fun p2 hp2 => ?_⟩
  rw [show (((nints (figs b n)).length : Int) + 1) / 2 = (((ln b n + 1) / 2 : Nat) : Int) by rw [nints_len]; show (((figs b n).length : Int) + 1) / 2 = ((((figs b n).length + 1) / 2 : Nat) : Int); omega, cut_none]
  have L2 := L1.new (o := .lst ((nints (figs b n)).take ((ln b n + 1) / 2))) hp2
  generalize upd _ _ _ = H2 at L2 ⊢
  have e2 : (nints (figs b n)).take ((ln b n + 1) / 2) = nints ((figs b n).take ((ln b n + 1) / 2)) := by simp [nints, List.map_take]
  rw [e2] at L2
  refine ⟨p2, _, b, rfl, L2.sqI 0 rfl, hb2, ?_⟩
  rw [half_eq hb, nints_len]
  refine ⟨by decide, fun p3 hp3 => ?_⟩
  exact q _ _ ((L2.new hp3).one 0 rfl)
theorem use_half {n b : Nat} (L : Led B F H) (hb : 2 ≤ b) (hb2 : b ≤ 36) (hn : n < lim) (q : ∀ p H', Led B ((p, .tup [.int (ln b n : Nat), .int (half b n : Nat)]) :: F) H' → Q (.ref p) H') : sp_half_of K C [.int n, .int b] H Q E :=
  ⟨n, b, rfl, hb, hb2, hn, fun p H' M => q p H' (L.step M)⟩
theorem rd_mirror_of (h : sp_mirror_of K C vs H Q E) : t_mirror_of K C E (fin Q) (start ["half", "size", "base", "some"] vs) H := by
  obtain ⟨h, s, b, rfl, hb, hb2, hh, hs, q⟩ := h
  show t_mirror_of K C E (fin Q) [some (.int h), some (.int s), some (.int b), none] H
  unfold t_mirror_of
  walk_at "w"
  refine ⟨h, b, rfl, hb, hb2, hh, fun p1 H1 L1 => ?_⟩
  walk_at "w"
  refine ⟨by decide, _, L1.sqI 0 rfl, fun p2 hp2 => ?_⟩
  rw [show ((s : Int) / 2) = ((s / 2 : Nat) : Int) by omega, cut_none]
  have L2 := L1.new (o := .lst ((nints (figs b h)).take (s / 2))) hp2
  generalize upd _ _ _ = H2 at L2 ⊢
  refine ⟨_, L2.sqI 0 rfl, fun p3 hp3 => ?_⟩
  have L3 := L2.new (o := .lst (((nints (figs b h)).take (s / 2)).reverse)) hp3
  generalize upd _ _ _ = H3 at L3 ⊢
  have e3 : ((nints (figs b h)).take (s / 2)).reverse = nints (((figs b h).take (s / 2)).reverse) := by simp [nints, List.map_take]
  rw [e3] at L3
  have hl := figs_len_lim hb hh
  refine ⟨_, L3.get 2 rfl, _, L3.get 0 rfl, ?_, fun p4 hp4 => ?_⟩
  · rw [nints_len, nints_len, List.length_reverse, List.length_take, sizeLine_eq]
    omega
  have L4 := L3.new (o := .lst (nints (figs b h) ++ nints (((figs b h).take (s / 2)).reverse))) hp4
  generalize upd _ _ _ = H4 at L4 ⊢
  have e4 : nints (figs b h) ++ nints (((figs b h).take (s / 2)).reverse) = nints (figs b h ++ ((figs b h).take (s / 2)).reverse) := by simp [nints]
  rw [e4] at L4
  exact ⟨p4, _, b, rfl, L4.sqI 0 rfl, hb2, q _ L4.none⟩
theorem use_mir {h s b : Nat} (L : Led B F H) (hb : 2 ≤ b) (hb2 : b ≤ 36) (hh : h < lim) (hs : s ≤ 100000) (q : ∀ H', Led B F H' → Q (.int (pal b s h : Nat)) H') : sp_mirror_of K C [.int h, .int s, .int b] H Q E :=
  ⟨h, s, b, rfl, hb, hb2, hh, hs, fun H' M => q H' (L.step0 M)⟩
theorem half_lt {b n : Nat} : half b n ≤ n := Nat.div_le_self _ _
theorem vi_ne {m n : Nat} (h : m ≠ n) : ¬ V.int (m : Int) = V.int (n : Int) := fun z => h (Int.ofNat.inj (V.int.inj z))
theorem vi_eq {m n : Nat} (h : m = n) : V.int (m : Int) = V.int (n : Int) := by rw [h]
theorem unp {p : Addr} {u w : V} {P : V → V → Prop} (h : SqT K H p [u, w]) (q : P u w) : ∃ a, V.ref p = .ref a ∧ ∃ x, SqT K H a x ∧ x.length = 2 ∧ ∃ v r, x = v :: r ∧ ∃ v1 r1, r = v1 :: r1 ∧ r1 = [] ∧ P v v1 := ⟨p, rfl, _, h, rfl, u, _, rfl, w, _, rfl, rfl, q⟩
theorem rd_at_most (h : sp_at_most K C vs H Q E) : t_at_most K C E (fin Q) (start ["number", "base", "size", "half"] vs) H := by
  obtain ⟨y, x, rfl, nb⟩ := h
  show t_at_most K C E (fin Q) [some y, some x, none, none] H
  unfold t_at_most
  walk_at "w"
  refine nb.need fun b e hb hb2 ⟨n, e2, hn, q⟩ => ?_
  subst e
  subst e2
  have hn' : n < lim := by have := lim1_lim hn; omega
  have L0 := Led.refl H
  have hl : ln b n ≤ 700 := figs_len_lim hb hn'
  have hlp : 0 < ln b n := ln_pos
  have hh : half b n < lim := Nat.lt_of_le_of_lt half_lt hn'
  walk_at "w"
  refine use_half L0 hb hb2 hn' fun p1 H1 L1 => unp (L1.stI 0 rfl) ?_
  have L1 := L1.none
  walk_at "w"
  refine use_mir L1 hb hb2 hh (by omega) fun H2 L2 => ⟨_, rfl, ?_⟩
  unfold lowM at q
  by_cases c1 : own b n ≤ n
  · rw [if_pos (Int.ofNat_le.mpr c1)]
    rw [if_pos c1] at q
    exact use_mir L2 hb hb2 hh (by omega) q
  · rw [if_neg (fun z => c1 (Int.ofNat_le.mp z))]
    rw [if_neg c1] at q
    refine ⟨by decide, ?_⟩
    rw [show ((ln b n : Int) - 1) / 2 = (((ln b n - 1) / 2 : Nat) : Int) by omega]
    refine use_pow hb2 (by omega) ⟨rfl, ?_⟩
    by_cases c2 : half b n = b ^ ((ln b n - 1) / 2)
    · rw [if_pos (by rw [c2])]
      rw [if_pos c2] at q
      rw [show ((ln b n : Int) - 1) = ((ln b n - 1 : Nat) : Int) by omega]
      refine use_pow hb2 (by omega) ?_
      have hp : 0 < b ^ (ln b n - 1) := Nat.pow_pos (by omega)
      have := q H2 L2
      rw [show ((b ^ (ln b n - 1) - 1 : Nat) : Int) = ((b ^ (ln b n - 1) : Nat) : Int) - 1 by omega] at this
      exact ⟨_, rfl, this⟩
    · rw [if_neg (vi_ne c2)]
      rw [if_neg c2] at q
      have h2 := own_two hb c1
      have hp : 0 < half b n := by
        have := (hf_half (n := n) hb).2.2
        omega
      rw [show ((half b n : Int) - 1) = ((half b n - 1 : Nat) : Int) by omega]
      exact use_mir L2 hb hb2 (by omega) (by omega) q
theorem rd_at_least (h : sp_at_least K C vs H Q E) : t_at_least K C E (fin Q) (start ["number", "base", "size", "half"] vs) H := by
  obtain ⟨y, x, rfl, nb⟩ := h
  show t_at_least K C E (fin Q) [some y, some x, none, none] H
  unfold t_at_least
  walk_at "w"
  refine nb.need fun b e hb hb2 ⟨n, e2, hn, q⟩ => ?_
  subst e
  subst e2
  have hn' : n + 1 < lim := by have := lim1_lim hn; omega
  have L0 := Led.refl H
  have hl : ln b n ≤ 700 := figs_len_lim hb (Nat.lt_of_succ_lt hn')
  have hlp : 0 < ln b n := ln_pos
  have hh : half b n + 1 < lim := Nat.lt_of_le_of_lt (Nat.succ_le_succ half_lt) hn'
  walk_at "w"
  refine use_half L0 hb hb2 (by omega) fun p1 H1 L1 => unp (L1.stI 0 rfl) ?_
  have L1 := L1.none
  walk_at "w"
  refine use_mir L1 hb hb2 (by omega) (by omega) fun H2 L2 => ?_
  walk_at "w"
  unfold highM at q
  by_cases c1 : own b n < n
  · rw [if_pos c1] at q
    rw [if_pos (Int.ofNat_lt.mpr c1)]
    exact use_mir L2 hb hb2 hh (by omega) q
  · rw [if_neg c1] at q
    rw [if_neg (fun z => c1 (Int.ofNat_lt.mp z))]
    exact use_mir (h := half b n) L2 hb hb2 (by omega) (by omega) q
theorem rd_many_of_size (h : sp_many_of_size K C vs H Q E) : t_many_of_size K C E (fin Q) (start ["size", "base"] vs) H := by
  obtain ⟨s, b, rfl, hs, hs2, hb, hb2, q⟩ := h
  show t_many_of_size K C E (fin Q) [some (.int s), some (.int b)] H
  unfold t_many_of_size
  walk_at "w"
  refine ⟨by decide, ?_⟩
  rw [show ((s : Int) - 1) / 2 = (((s - 1) / 2 : Nat) : Int) by omega]
  refine use_pow hb2 (by omega) ⟨_, rfl, Or.inl ⟨by omega, by omega⟩, ?_⟩
  have e : ((ofSize b s : Nat) : Int) = ((b : Int) - 1) * ((b ^ ((s - 1) / 2) : Nat) : Int) := by
    unfold ofSize
    rw [Int.natCast_mul, Int.natCast_sub (by omega)]
    rfl
  rw [e] at q
  exact q
theorem use_size {s b : Nat} (hs : 1 ≤ s) (hs2 : s ≤ 100000) (hb : 2 ≤ b) (hb2 : b ≤ 36) (q : Q (.int (ofSize b s : Nat)) H) : sp_many_of_size K C [.int s, .int b] H Q E := ⟨s, b, rfl, hs, hs2, hb, hb2, q⟩
theorem half_pos {b n : Nat} (hb : 2 ≤ b) (hn : 0 < n) : 0 < half b n := by
  rcases (hf_half (n := n) hb).2.2 with h | h
  · exact h
  · unfold half
    rw [h]
    simpa using hn
theorem rd_many_to (h : sp_many_to K C vs H Q E) : t_many_to K C E (fin Q) (start ["number", "base", "many", "size", "half", "lesser"] vs) H := by
  obtain ⟨y, x, rfl, nb⟩ := h
  show t_many_to K C E (fin Q) [some y, some x, none, none, none, none] H
  unfold t_many_to
  walk_at "w"
  refine nb.need fun b e hb hb2 ⟨n, e2, hn, q⟩ => ?_
  subst e
  subst e2
  clear nb
  have hn' : n < lim := by have := lim1_lim hn; omega
  have L0 := Led.refl H
  have hl : ln b n ≤ 700 := figs_len_lim hb hn'
  have hlp : 0 < ln b n := ln_pos
  have hh : half b n < lim := Nat.lt_of_le_of_lt half_lt hn'
  rw [← many_cnt hb] at q
  unfold manyF at q
  refine ⟨rfl, ?_⟩
  by_cases c0 : n = 0
  · subst c0
    rw [if_pos (show V.int ((0 : Nat) : Int) = V.int 0 from rfl)]
    exact q H L0
  rw [if_neg (fun z => c0 (by have := V.int.inj z; omega))]
  rw [if_neg c0] at q
  walk_at "w"
  refine use_half L0 hb hb2 hn' fun p1 H1 L1 => unp (L1.stI 0 rfl) ?_
  have L1 := L1.none
  walk_at "w"
  refine ⟨by decide, ?_⟩
  rw [show ((ln b n : Int) - 1) / 2 = (((ln b n - 1) / 2 : Nat) : Int) by omega]
  refine use_pow hb2 (by omega) ?_
  walk_at "w"
  refine use_mir L1 hb hb2 hh (by omega) fun H2 L2 => ?_
  walk_at "w"
  refine ⟨1, ln b n, ⟨rfl, rfl⟩, ⟨by omega, by omega, by omega, by omega⟩, fun P hP => ?_⟩
  rw [show ((ln b n : Int) - 1).toNat = ln b n - 1 by omega]
  refine lc_r L2 hP (fun i => nints ((List.range i).map fun k => ofSize b (k + 1))) rfl ?_ ?_
  · intro i H3 hi L3
    refine ⟨rfl, ?_⟩
    walk_at "w"
    rw [show (1 : Int) + (i : Int) = ((i + 1 : Nat) : Int) by omega]
    refine use_size (by omega) (by omega) hb hb2 (lc_y L3 ?_ ?_)
    · simp [nints, List.range_succ]
    · rw [nints_len, List.length_map, List.length_range, sizeLine_eq]
      omega
  · intro H3 L3
    refine ⟨_, L3.sqI 0 rfl, ?_⟩
    have e1 : ∀ m, (((List.range m).map fun k => ofSize b (k + 1)).map fun (d : Nat) => (d : Int)).sum = ((below b (m + 1) : Nat) : Int) := by
      intro m
      induction m with
      | zero => rfl
      | succ m ih =>
        rw [List.range_succ, List.map_append, List.map_append, List.sum_append, ih, below_succ (s := m + 1) (by omega)]
        simp
    rw [e1, show ln b n - 1 + 1 = ln b n by omega]
    have hp : b ^ ((ln b n - 1) / 2) ≤ half b n := hf_low hb (hf_half hb) (half_pos hb (by omega))
    have := q H3 L3.none
    have e2 : (((half b n - b ^ ((ln b n - 1) / 2) + if own b n ≤ n then 1 else 0) + below b (ln b n) : Nat) : Int) = ((half b n : Int) - ((b ^ ((ln b n - 1) / 2) : Nat) : Int) + if ((pal b (ln b n) (half b n) : Nat) : Int) ≤ n then 1 else 0) + ((below b (ln b n) : Nat) : Int) := by
      rw [Int.natCast_add, Int.natCast_add, Int.natCast_sub hp]
      by_cases c1 : own b n ≤ n
      · rw [if_pos c1, if_pos (Int.ofNat_le.mpr c1)]
        rfl
      · rw [if_neg c1, if_neg (fun z => c1 (Int.ofNat_le.mp z))]
        rfl
    rw [e2] at this
    exact this
theorem at_bound {b s left n : Nat} (hb : 2 ≤ b) (hb2 : b ≤ 36) (hs : 1 ≤ s) (h : left + 1 + below b s = n) (hl : left < ofSize b s) : b ^ ((s - 1) / 2) + left ≤ 4 * n + 1 ∧ b ^ s ≤ 50000 * (n + 1) * (n + 1) := by
  have h1 : b ^ ((s - 1) / 2) ≤ 3 * n + 1 := by
    by_cases c : s = 1
    · subst c
      simp
    · have e : below b s = below b (s - 1) + ofSize b (s - 1) := by
        have := below_succ (b := b) (s := s - 1) (by omega)
        rwa [show s - 1 + 1 = s by omega] at this
      have h2 : ofSize b (s - 1) ≤ n := by omega
      have h3 : b ^ ((s - 1) / 2) ≤ b * b ^ ((s - 1 - 1) / 2) := by
        rw [← Nat.pow_succ']
        exact Nat.pow_le_pow_right (by omega) (by omega)
      have h4 : b * b ^ ((s - 1 - 1) / 2) ≤ 2 * ofSize b (s - 1) := by
        unfold ofSize
        rw [← Nat.mul_assoc]
        exact Nat.mul_le_mul_right _ (by omega)
      omega
  refine ⟨by omega, ?_⟩
  have h5 : b ^ s ≤ (36 * (3 * n + 1)) * (36 * (3 * n + 1)) := by
    have h6 : b ^ s ≤ (b * b ^ ((s - 1) / 2)) * (b * b ^ ((s - 1) / 2)) := by
      rw [← Nat.pow_succ', ← Nat.pow_add]
      exact Nat.pow_le_pow_right (by omega) (by omega)
    have h7 : b * b ^ ((s - 1) / 2) ≤ 36 * (3 * n + 1) := Nat.mul_le_mul hb2 h1
    exact Nat.le_trans h6 (Nat.mul_le_mul h7 h7)
  have h8 : 36 * (3 * n + 1) ≤ 108 * (n + 1) := by omega
  have h9 := Nat.mul_le_mul h8 h8
  have h10 : 108 * (n + 1) * (108 * (n + 1)) = 11664 * ((n + 1) * (n + 1)) := by
    rw [Nat.mul_mul_mul_comm]
  rw [Nat.mul_assoc]
  omega
theorem rd_mirrored_at (h : sp_mirrored_at K C vs H Q E) : t_mirrored_at K C E (fin Q) (start ["place", "base", "left", "size"] vs) H := by
  obtain ⟨y, x, rfl, nb⟩ := h
  show t_mirrored_at K C E (fin Q) [some y, some x, none, none] H
  unfold t_mirrored_at
  walk_at "w"
  refine nb.need fun b e hb hb2 ⟨n, e2, hn, q⟩ => ?_
  subst e
  subst e2
  clear nb
  have hn' : n < lim := by have := lim1_lim hn; omega
  have L0 := Led.refl H
  refine ⟨rfl, ?_⟩
  by_cases c0 : n = 0
  · subst c0
    rw [if_pos (show V.int ((0 : Nat) : Int) = V.int 0 from rfl)]
    exact q H 0 (mir_zero hb) rfl (by omega) L0
  rw [if_neg (fun z => c0 (by have := V.int.inj z; omega))]
  walk_at "w"
  refine whl (fun m σ H1 => ∃ l s : Nat, m = l ∧ 1 ≤ s ∧ l + 1 + below b s = n ∧ H1 = H ∧ σ = [some (.int n), some (.int b), some (.int l), some (.int s)]) (n - 1) ⟨n - 1, 1, rfl, by decide, by show n - 1 + 1 + 0 = n; omega, rfl, by rw [show ((n : Int) - 1) = ((n - 1 : Nat) : Int) by omega]; rfl⟩ ?_
  rintro N hN m σ H1 ⟨l, s, em, hs, e, rfl, rfl⟩
  have em := em.symm
  subst em
  have hs2 : s ≤ 1402 := below_size hb hs (show below b s ≤ n by omega) hn'
  walk_at "w"
  refine use_size hs (by omega) hb hb2 ?_
  walk_at "w"
  by_cases hc : ofSize b s ≤ l
  · rw [if_pos (Int.ofNat_le.mpr hc)]
    refine whb ?_
    walk_at "w"
    refine use_size hs (by omega) hb hb2 ?_
    walk_at "w"
    have hp := ofSize_pos (b := b) (s := s) hb
    refine ⟨l - ofSize b s, by omega, hN _ _ _ ⟨l - ofSize b s, s + 1, rfl, by omega, ?_, rfl, ?_⟩⟩
    · rw [below_succ hs]
      omega
    · rw [Int.natCast_sub hc]
      rfl
  · rw [if_neg (fun z => hc (Int.ofNat_le.mp z))]
    refine ⟨by decide, ?_⟩
    rw [show ((s : Int) - 1) / 2 = (((s - 1) / 2 : Nat) : Int) by omega]
    refine use_pow hb2 (by omega) ⟨_, rfl, ?_⟩
    have hc' : l < ofSize b s := by omega
    obtain ⟨b1, b2⟩ := at_bound hb hb2 hs e hc'
    obtain ⟨a1, a2, a3, a4⟩ := at_spec hb hs hc'
    have hl1 := lim1_lim hn
    refine use_mir (h := b ^ ((s - 1) / 2) + l) L0 hb hb2 (by omega) (by omega) fun H2 L2 => ?_
    exact q H2 _ a1 (by rw [a2]; exact e) (Nat.le_trans (Nat.le_of_lt a4) b2) L2
theorem casts_inj : ∀ {l m : List Nat}, (l.map fun (d : Nat) => (d : Int)) = (m.map fun (d : Nat) => (d : Int)) → l = m
  | [], [], _ => rfl
  | [], _ :: _, h => by cases h
  | _ :: _, [], h => by cases h
  | x :: l, y :: m, h => by
    rw [List.map_cons, List.map_cons, List.cons.injEq] at h
    rw [Int.ofNat.inj h.1, casts_inj h.2]
theorem rd_is_mirrored (h : sp_is_mirrored K C vs H Q E) : t_is_mirrored K C E (fin Q) (start ["thing", "base", "some"] vs) H := by
  obtain ⟨y, x, rfl, nb⟩ := h
  show t_is_mirrored K C E (fin Q) [some y, some x, none] H
  unfold t_is_mirrored
  walk_at "w"
  refine nb.need fun b e hb hb2 ⟨hk, hl, q⟩ => ?_
  subst e
  clear nb
  refine ⟨y, rfl, hk, _, rfl, ?_⟩
  cases y with
  | int i =>
    simp only [isInt, Bool.not_true, Bool.false_eq_true, if_false]
    walk_at "w"
    by_cases c : i < 0
    · rw [if_pos c]
      have e : mirV b (.int i) = false := by
        show (decide (0 ≤ i) && _) = false
        rw [decide_eq_false (by omega)]
        rfl
      rw [e] at q
      exact q H (Led.refl H)
    · rw [if_neg c]
      obtain ⟨n, rfl⟩ := Int.eq_ofNat_of_zero_le (show 0 ≤ i by omega)
      have hn : n < lim := by have : (n : Int) < lim := hl; omega
      refine ⟨n, b, rfl, hb, hb2, hn, fun p1 H1 L1 => ?_⟩
      walk_at "w"
      refine ⟨_, L1.sqI 0 rfl, fun p2 hp2 => ?_⟩
      have L2 := L1.new (o := .lst (nints (figs b n)).reverse) hp2
      generalize upd _ _ _ = H2 at L2 ⊢
      have e2 : (nints (figs b n)).reverse = nints (figs b n).reverse := by simp [nints]
      rw [e2] at L2
      refine ⟨_, L2.sqI 1 rfl, _, L2.sqI 0 rfl, ?_⟩
      have e3 : decide (((figs b n).map fun (d : Nat) => (d : Int)) = ((figs b n).reverse.map fun (d : Nat) => (d : Int))) = mirV b (.int n) := by
        show _ = (decide ((0 : Int) ≤ (n : Int)) && mir b ((n : Int).toNat))
        rw [decide_eq_true (Int.natCast_nonneg n), Bool.true_and, show (n : Int).toNat = n by omega]
        unfold mir
        apply decide_eq_decide.mpr
        constructor
        · intro h
          exact casts_inj h
        · intro h
          rw [← h]
      rw [e3]
      exact q _ L2.none
  | _ => exact q H (Led.refl H)
theorem rd_place_of (h : sp_place_of K C vs H Q E) : t_place_of K C E (fin Q) (start ["thing", "base"] vs) H := by
  obtain ⟨y, x, rfl, hx, r, nb⟩ := h
  show t_place_of K C E (fin Q) [some y, some x] H
  unfold t_place_of
  walk_at "w"
  refine ⟨y, x, rfl, hx, r, fun b e hb hb2 => ?_⟩
  obtain ⟨hk, hl, r2, q⟩ := nb b e hb hb2
  refine ⟨hk, ?_, fun H1 L1 => ⟨_, rfl, ?_⟩⟩
  · cases y with
    | int i =>
      have h1 : i < lim1 := hl
      have h2 : (lim1 : Int) < lim := by decide +kernel
      show i < lim
      omega
    | _ => trivial
  · cases c : mirV b y with
    | false => exact r2 c H1 L1
    | true =>
      cases y with
      | int i =>
        have c : (decide (0 ≤ i) && mir b i.toNat) = true := c
        rw [Bool.and_eq_true, decide_eq_true_eq] at c
        obtain ⟨n, rfl⟩ := Int.eq_ofNat_of_zero_le c.1
        rw [show (n : Int).toNat = n by omega] at c
        subst e
        rw [if_neg (by decide)]
        have hn : n < lim1 := by have : (n : Int) < lim1 := hl; omega
        exact ⟨_, _, rfl, NB.good hb hb2 ⟨n, rfl, hn, fun H2 M2 => q n rfl c.2 H2 (L1.step0 M2)⟩⟩
      | _ => cases c
end
end Mi

namespace Mi
open PySem PySem.Spec PyProof.Rows L2
local macro_rules
  | `(tactic| walk_at "w") => `(tactic| try simp only [a_seq, a_next, a_tru, tru_bl, b_isB, b_notB, b_mulS, b_addS, b_intS, b_lstRg, b_rg1, b_rg2, a_to, b_geLI, b_dictP, a_dIn, a_dNotIn, b_popAt, b_abs, a_glst, a_dput, a_dnewK, a_dnewT, b_sortI, a_iR3, b_reprV, b_countD, isi_ii, isi_ib, isi_bi, isi_bb, a_asg, a_name, a_var, a_c, a_op, a_un, a_rI, a_rI0, a_rU, a_ret, a_retN, a_ifS, a_drop, a_aug, a_ipI, a_test, a_B, a_and, a_or, a_not, a_andV, a_orV, a_notV, a_ifE, a_nil, a_cons, a_lst, a_tup, a_cb, a_go, a_bm, a_bm0, a_sl, a_po, a_pn,
      a_gsub, a_gnil, a_gcons, a_gtup, a_chain, a_eq, a_ne, a_yes, a_revL, a_slL, a_ixL, a_ixT, a_append, a_setL, a_cat, a_for, a_lc, a_iL, a_iT, a_iR1, a_iR2, a_iE, a_iZ, a_iS, b_lenL, b_int1b, b_int1i, b_listOf, b_max2, b_min2, b_sum, b_rep, b_eqLI0, b_eqLI1, b_isN, b_notN, b_listEnum, b_raise0,
      List.getElem?_cons_zero, List.getElem?_cons_succ, List.set_cons_zero, List.set_cons_succ, Option.some.injEq, V.int.injEq, V.ref.injEq, V.bl.injEq, V.str.injEq, List.cons.injEq, and_true, true_and, exists_eq_left', exists_eq_left, exists_eq_right, exists_eq_right', exists_and_left, exists_eq', exists_eq, decide_eq_true_eq, scal_ii, scal_bb, scal_ss, wipe, ↓reduceIte, reduceCtorEq,
      Bool.not_eq_true', Bool.false_eq_true, not_false_eq_true, not_true_eq_false, if_true, if_false, decide_eq_false_iff_not, List.length_cons, List.length_nil, Nat.zero_add, CDiv, CMul, CPow])
local macro_rules
  | `(tactic| walk_at "z") => `(tactic| first | omega | (rw [sizeLine_eq]; simp only [List.length_append, List.length_map, List.length_cons, List.length_nil, List.length_reverse, nints]; omega) | decide | (simp only [List.length_append, List.length_map, List.length_cons, List.length_nil]; omega))
section
variable {K : PySem.W.Frag} {C : Str → Addr} {H B : Hp} {Q : VK} {E : XK} {F : List (Addr × HO)} {vs : List V} {a : Addr} {ds : List Nat}
theorem rd__law_take_d (h : sp__law_take_d K C vs H Q E) : t__law_take_d K C E (fin Q) (start ["draws", "many"] vs) H := by
  obtain ⟨a, ds, m, rfl, ha, hm, hl, q⟩ := h
  show t__law_take_d K C E (fin Q) [some (.ref a), some (.int m)] H
  unfold t__law_take_d
  have L := Led.own1 ha
  walk_at "w"
  refine ⟨by decide, fun p hp => ?_⟩
  have L1 := L.new (o := .lst []) hp
  generalize upd _ _ _ = H1 at L1 ⊢
  refine ⟨ds.map fun (d : Nat) => (d : Int), L1.sqI 1 rfl, [], L1.sqI 0 rfl, ?_⟩
  cases ds with
  | nil =>
    rw [if_pos (show List.map (fun (d : Nat) => (d : Int)) [] = [] from rfl)]
    exact q H1 [] 0 hl hm (L1.one 1 rfl)
  | cons d ds =>
    rw [if_neg (by simp)]
    refine ⟨.inl ⟨rfl, _, L1.sqI 1 rfl⟩, _, L1.get 1 rfl, by decide, by decide, 0, ?_, _, rfl, _, rfl, by omega, ?_⟩
    · rw [nints_len]
      unfold seqIndex?
      simp
    · have L2 := (L1.put (o' := .lst (nints ds)) 1 rfl).one 1 rfl
      rw [show ((d : Nat) : Int) % (m : Int) = ((d % m : Nat) : Int) by omega]
      exact q _ ds (d % m) (by simp at hl; omega) (Nat.mod_lt _ hm) L2
theorem use_take {m : Nat} (L : Led B F H) (i : Nat) (hF : F[i]? = some (a, .lst (nints ds))) (hm : 0 < m) (hl : ds.length ≤ 240)
    (q : ∀ H' (ds' : List Nat) (g : Nat), ds'.length ≤ 240 → g < m → Led B (F.set i (a, .lst (nints ds'))) H' → Q (.int g) H') : sp__law_take_d K C [.ref a, .int m] H Q E :=
  ⟨a, ds, m, rfl, L.get i hF, hm, hl, fun H' ds' g hl' hg M => q H' ds' g hl' hg (L.stepOwn (G := []) i hF M)⟩
theorem rd__law_base_d (h : sp__law_base_d K C vs H Q E) : t__law_base_d K C E (fin Q) (start ["draws"] vs) H := by
  obtain ⟨a, ds, rfl, ha, hl, q⟩ := h
  show t__law_base_d K C E (fin Q) [some (.ref a)] H
  unfold t__law_base_d
  have L := Led.own1 ha
  walk_at "w"
  refine use_take (m := 35) L 0 rfl (by decide) hl fun H1 ds1 g1 hl1 hg1 L1 => ?_
  walk_at "w"
  refine use_take (m := 35) L1 0 rfl (by decide) hl1 fun H2 ds2 g2 hl2 hg2 L2 => ⟨_, rfl, by decide, fun p hp => ?_⟩
  have L3 := L2.new (o := .lst (nints [10, 2 + g1, 2 + g2, 2])) hp
  have e : [V.int 10, V.int (2 + (g1 : Nat)), V.int (2 + (g2 : Nat)), V.int 2] = nints [10, 2 + g1, 2 + g2, 2] := by simp [nints]
  rw [e]
  generalize upd _ _ _ = H3 at L3 ⊢
  refine use_take (m := 4) L3 1 rfl (by decide) hl2 fun H4 ds4 g4 hl4 hg4 L4 => ?_
  obtain ⟨x, hx, h1, h2⟩ : ∃ x : Nat, atI (nints [10, 2 + g1, 2 + g2, 2]) (g4 : Int) = some (.int (x : Nat)) ∧ 2 ≤ x ∧ x ≤ 36 := by
    have : g4 = 0 ∨ g4 = 1 ∨ g4 = 2 ∨ g4 = 3 := by omega
    rcases this with rfl | rfl | rfl | rfl
    · exact ⟨10, rfl, by decide, by decide⟩
    · exact ⟨2 + g1, rfl, by omega, by omega⟩
    · exact ⟨2 + g2, rfl, by omega, by omega⟩
    · exact ⟨2, rfl, by decide, by decide⟩
  exact ⟨_, _, rfl, L4.sqI 0 rfl, _, hx, q _ _ _ hl4 h1 h2 (L4.one 1 rfl)⟩
theorem use_base_d (L : Led B F H) (i : Nat) (hF : F[i]? = some (a, .lst (nints ds))) (hl : ds.length ≤ 240)
    (q : ∀ H' (ds' : List Nat) (b : Nat), ds'.length ≤ 240 → 2 ≤ b → b ≤ 36 → Led B (F.set i (a, .lst (nints ds'))) H' → Q (.int b) H') : sp__law_base_d K C [.ref a] H Q E :=
  ⟨a, ds, rfl, L.get i hF, hl, fun H' ds' b hl' hb hb2 M => q H' ds' b hl' hb hb2 (L.stepOwn (G := []) i hF M)⟩
theorem rd__law_power_d (h : sp__law_power_d K C vs H Q E) : t__law_power_d K C E (fin Q) (start ["base", "many", "found", "k"] vs) H := by
  obtain ⟨b, m, rfl, hb, hm, q⟩ := h
  show t__law_power_d K C E (fin Q) [some (.int b), some (.int m), none, none] H
  unfold t__law_power_d
  walk_at "w"
  refine ⟨by omega, by omega, for_r (fun i σ H1 => H1 = H ∧ ∃ y, σ = [some (.int b), some (.int m), some (.int ((b ^ i : Nat))), y]) ⟨rfl, none, rfl⟩ ?_ ?_⟩
  · rintro N hN i σ H1 hi ⟨rfl, y, rfl⟩
    walk_at "w"
    refine ⟨by omega, hN _ _ _ ⟨rfl, some (.int (0 + (i : Int))), ?_⟩⟩
    rw [Nat.pow_succ]
    simp
  · rintro σ H1 ⟨rfl, y, rfl⟩
    walk_at "w"
    exact q
theorem use_power_d {b m : Nat} (hb : b ≤ 36) (hm : m ≤ 100000) (q : Q (.int ((b ^ m : Nat))) H) : sp__law_power_d K C [.int b, .int m] H Q E := ⟨b, m, rfl, hb, hm, q⟩
theorem rd__law_figures_d (h : sp__law_figures_d K C vs H Q E) : t__law_figures_d K C E (fin Q) (start ["number", "base", "found"] vs) H := by
  obtain ⟨i, b, rfl, hb, hb2, hi, hi2, q⟩ := h
  show t__law_figures_d K C E (fin Q) [some (.int i), some (.int b), none] H
  unfold t__law_figures_d
  walk_at "w"
  refine ⟨by omega, by decide, fun p hp => ?_⟩
  have L0 := (Led.refl H).new (o := .lst [.int (i % b)]) hp
  generalize upd _ _ _ = H0 at L0 ⊢
  by_cases ci : i < 0
  · have e1 : i = -1 := by omega
    subst e1
    have e2 : (-1 : Int) % (b : Int) = ((b - 1 : Nat) : Int) := by
      rw [← Int.add_emod_right, Int.emod_eq_of_lt (by omega) (by omega)]
      omega
    rw [e2] at L0
    refine whl (fun m σ H1 => H1 = H0 ∧ σ = [some (.int (-1)), some (.int b), some (.ref p)]) 0 ⟨rfl, rfl⟩ ?_
    rintro N hN m σ H1 ⟨rfl, rfl⟩
    walk_at "w"
    rw [if_neg (by omega)]
    refine q p _ ?_
    unfold figsZ
    rw [if_pos ci]
    exact L0
  · obtain ⟨n, rfl⟩ := Int.eq_ofNat_of_zero_le (show 0 ≤ i by omega)
    have ef : figsZ b (n : Int) = figs b n := by
      unfold figsZ
      rw [if_neg ci]
      rfl
    rw [ef] at q
    have hn : n < lim := by omega
    have flen := figs_len_lim hb hn
    refine whl (fun m σ H1 => ∃ (x : Nat) (l : List Nat) (r : Addr), m = x ∧ x ≤ n ∧ figs b n = figs b x ++ l ∧ Led H [(r, .lst (nints (x % b :: l)))] H1 ∧ σ = [some (.int x), some (.int b), some (.ref r)]) n ⟨n, [], p, rfl, Nat.le_refl _, by simp, ?_, rfl⟩ ?_
    · have e : nints [n % b] = [V.int ((n : Int) % b)] := by simp [nints]
      rw [e]
      exact L0
    rintro N hN m σ H1 ⟨x, l, r, em, hx, e, L1, rfl⟩
    have em := em.symm
    subst em
    walk_at "w"
    by_cases c : b ≤ x
    · rw [if_pos (by omega)]
      refine whb ?_
      walk_at "w"
      rw [show (x : Int) / b = ((x / b : Nat) : Int) by omega]
      refine ⟨⟨by omega, by omega⟩, by omega, by decide, fun p2 hp2 => ?_⟩
      have L2 := L1.new (o := .lst (nints [x / b % b])) hp2
      have e2 : [V.int (((x / b : Nat) : Int) % b)] = nints [x / b % b] := by simp [nints]
      rw [e2]
      generalize upd _ _ _ = H2 at L2 ⊢
      have hll : l.length ≤ 700 := by
        have := flen
        rw [e, List.length_append] at this
        omega
      refine ⟨_, L2.get 0 rfl, _, L2.get 1 rfl, by rw [nints_len, nints_len, sizeLine_eq, List.length_singleton, List.length_cons]; omega, fun p3 hp3 => ?_⟩
      have L3 := L2.new (o := .lst (nints [x / b % b] ++ nints (x % b :: l))) hp3
      rw [← nints_append] at L3 ⊢
      generalize upd _ _ _ = H3 at L3 ⊢
      refine ⟨x / b, Nat.div_lt_self (by omega) (by omega), hN _ _ _ ⟨x / b, x % b :: l, p3, rfl, Nat.le_trans (Nat.div_le_self _ _) hx, ?_, L3.one 0 rfl, rfl⟩⟩
      rw [e]
      have : figs b x = figs b (x / b) ++ [x % b] := by
        unfold figs
        rw [digs_ge hb c, List.reverse_cons]
      rw [this, List.append_assoc]
      rfl
    · rw [if_neg (by omega)]
      refine q r H1 ?_
      have : figs b x = [x % b] := by
        unfold figs
        rw [digs_lt (by omega), Nat.mod_eq_of_lt (by omega)]
        rfl
      rw [e, this]
      exact L1
theorem use_figs_d {i : Int} {b : Nat} (L : Led B F H) (hb : 2 ≤ b) (hb2 : b ≤ 36) (h1 : -1 ≤ i) (h2 : i < (lim : Nat)) (q : ∀ p H', Led B ((p, .lst (nints (figsZ b i))) :: F) H' → Q (.ref p) H') : sp__law_figures_d K C [.int i, .int b] H Q E :=
  ⟨i, b, rfl, hb, hb2, h1, h2, fun p H' M => q p H' (L.step M)⟩
theorem use_figs_n {n b : Nat} (L : Led B F H) (hb : 2 ≤ b) (hb2 : b ≤ 36) (h2 : n < lim) (q : ∀ p H', Led B ((p, .lst (nints (figs b n))) :: F) H' → Q (.ref p) H') : sp__law_figures_d K C [.int (n : Nat), .int b] H Q E :=
  use_figs_d L hb hb2 (by omega) (by omega) fun p H' M => q p H' (by
    have : figsZ b (n : Int) = figs b n := by
      unfold figsZ
      rw [if_neg (by omega)]
      rfl
    rw [this] at M
    exact M)
theorem rd__law_is_mirrored_d (h : sp__law_is_mirrored_d K C vs H Q E) : t__law_is_mirrored_d K C E (fin Q) (start ["number", "base", "some"] vs) H := by
  obtain ⟨n, b, rfl, hb, hb2, hn, q⟩ := h
  show t__law_is_mirrored_d K C E (fin Q) [some (.int n), some (.int b), none] H
  unfold t__law_is_mirrored_d
  walk_at "w"
  refine use_figs_n (Led.refl H) hb hb2 hn fun p1 H1 L1 => ?_
  walk_at "w"
  refine ⟨_, L1.sqI 0 rfl, fun p2 hp2 => ?_⟩
  have L2 := L1.new (o := .lst (nints (figs b n)).reverse) hp2
  generalize upd _ _ _ = H2 at L2 ⊢
  have e2 : (nints (figs b n)).reverse = nints (figs b n).reverse := by simp [nints]
  rw [e2] at L2
  refine ⟨_, L2.sqI 1 rfl, _, L2.sqI 0 rfl, ?_⟩
  have e3 : decide (((figs b n).map fun (d : Nat) => (d : Int)) = ((figs b n).reverse.map fun (d : Nat) => (d : Int))) = mir b n := by
    unfold mir
    exact decide_eq_decide.mpr ⟨fun h => casts_inj h, fun h => by rw [← h]⟩
  rw [e3]
  exact q _ L2.none
theorem use_mir_d {n b : Nat} (L : Led B F H) (hb : 2 ≤ b) (hb2 : b ≤ 36) (hn : n < lim) (q : ∀ H', Led B F H' → Q (.bl (mir b n)) H') : sp__law_is_mirrored_d K C [.int n, .int b] H Q E :=
  ⟨n, b, rfl, hb, hb2, hn, fun H' M => q H' (L.step0 M)⟩
theorem rd__law_whole_d (h : sp__law_whole_d K C vs H Q E) : t__law_whole_d K C E (fin Q) (start ["thing"] vs) H := by
  obtain ⟨x, rfl, hx, q⟩ := h
  show t__law_whole_d K C E (fin Q) [some x] H
  unfold t__law_whole_d
  walk_at "w"
  refine isi_int hx ⟨_, rfl, ?_⟩
  cases x with
  | int i =>
    rw [if_pos (show isIB (V.int i) = true from rfl)]
    refine isi_bool hx ⟨_, rfl, ?_⟩
    exact q
  | bl i =>
    rw [if_pos (show isIB (V.bl i) = true from rfl)]
    refine isi_bool hx ⟨_, rfl, ?_⟩
    exact q
  | _ => exact q
theorem pow_six {b s : Nat} (hb : 2 ≤ b) (h : b ^ s ≤ 1000000) : s < 20 := by
  refine Nat.lt_of_not_le fun z => ?_
  have h1 : 2 ^ 20 ≤ b ^ s := Nat.le_trans (Nat.pow_le_pow_right (by decide) z) (Nat.pow_le_pow_left hb s)
  have h2 : 2 ^ 20 ≤ 1000000 := Nat.le_trans h1 h
  exact absurd h2 (by decide)
theorem half_six {b s : Nat} (hb : 2 ≤ b) (h : b ^ s ≤ 1000000) : b ^ (s / 2) ≤ 1000 := by
  refine Nat.le_of_not_lt fun z => ?_
  have h1 : b ^ (s / 2) * b ^ (s / 2) ≤ b ^ s := by
    rw [← Nat.pow_add]
    exact Nat.pow_le_pow_right (by omega) (by omega)
  have h2 : 1001 * 1001 ≤ b ^ (s / 2) * b ^ (s / 2) := Nat.mul_le_mul z z
  omega
theorem rd__law_draws_d (h : sp__law_draws_d K C vs H Q E) : t__law_draws_d K C E (fin Q) (start ["script", "draws", "k", "rest", "stir", "many"] vs) H := by
  obtain ⟨a, ns, rfl, hS, hns, q⟩ := h
  show t__law_draws_d K C E (fin Q) [some (.ref a), none, none, none, none, none] H
  unfold t__law_draws_d
  walk_at "w"
  refine ⟨by decide, fun p hp => ?_⟩
  have L0 := (Led.refl H).new (o := .lst []) hp
  generalize upd _ _ _ = H0 at L0 ⊢
  refine ⟨_, .inl (L0.sq hS), ?_⟩
  have en : (if (80 : Int) < ((ns.map V.int).length : Int) then (80 : Int) else ((ns.map V.int).length : Int)) = (ns.length : Int) := by
    rw [List.length_map, if_neg (by omega)]
  rw [en]
  refine ⟨by omega, by omega, ?_⟩
  rw [Int.toNat_natCast]
  refine for_r (fun i σ H' => ∃ (l : List Nat) (y2 y3 y4 y5 : Option V), l.length ≤ 60 * i ∧ Led H [(p, .lst (nints l))] H' ∧ σ = [some (.ref a), some (.ref p), y2, y3, y4, y5]) ⟨[], none, none, none, none, Nat.le_refl _, L0, rfl⟩ ?_ ?_
  · rintro N hN i σ H1 hi ⟨l, y2, y3, y4, y5, hl, L1, rfl⟩
    have hsl := sizeLine_eq
    walk_at "w"
    rw [show (0 : Int) + i = (i : Nat) by omega]
    obtain ⟨v, hv⟩ : ∃ v, ns[i]? = some v := ⟨_, List.getElem?_eq_getElem hi⟩
    have hat : atI (ns.map V.int) (i : Int) = some (.int v) := atI_nat (by rw [List.getElem?_map, hv]; rfl)
    refine ⟨_, L1.sq hS, _, hat, ?_⟩
    walk_at "w"
    obtain ⟨r, er⟩ := Int.eq_ofNat_of_zero_le (show 0 ≤ (if v < 0 then -v else v) by split <;> omega)
    rw [er]
    refine ⟨by decide, ?_⟩
    generalize (10 : Int) ^ Int.toNat 18 = bound
    by_cases c : (r : Int) < bound
    · rw [if_pos c]
      obtain ⟨s1, hs1, e1⟩ : ∃ s : Nat, s < 2147483647 ∧ ((r : Int) + 7919 * (i : Int) + 3) % 2147483647 * 48271 % 2147483647 = (s : Int) := emod_nat _ 2147483647 (by decide)
      simp only [e1]
      obtain ⟨s2, hs2, e2⟩ : ∃ s : Nat, s < 2147483629 ∧ (s1 : Int) * (s1 : Int) % 2147483629 = (s : Int) := emod_nat _ 2147483629 (by decide)
      simp only [e2]
      obtain ⟨s3, hs3, e3⟩ : ∃ s : Nat, s < 2147483587 ∧ ((s2 : Int) + 40692 * ((i : Int) + 7)) % 2147483587 = (s : Int) := emod_nat _ 2147483587 (by decide)
      simp only [e3]
      obtain ⟨s4, hs4, e4⟩ : ∃ s : Nat, s < 2147483647 ∧ (s3 : Int) * (s3 : Int) % 2147483647 = (s : Int) := emod_nat _ 2147483647 (by decide)
      simp only [e4]
      have g1 : (s2 : Int) / 16 % 1000 = ((s2 / 16 % 1000 : Nat) : Int) := by omega
      have g2 : (s2 : Int) / 16000 % 1000 = ((s2 / 16000 % 1000 : Nat) : Int) := by omega
      have g3 : (s4 : Int) / 16 % 1000 = ((s4 / 16 % 1000 : Nat) : Int) := by omega
      simp only [g1, g2, g3]
      generalize s2 / 16 % 1000 = u1
      generalize s2 / 16000 % 1000 = u2
      generalize s4 / 16 % 1000 = u3
      refine ⟨.inl (by decide), by decide, .inr (by decide), by decide, .inl ⟨by omega, by omega⟩, by decide, .inl ⟨rfl, _, L1.sqI 0 rfl⟩, by decide, by decide, _, L1.get 0 rfl, by rw [nints_len]; omega, ?_⟩
      have L2 := L1.put (o' := .lst (nints l ++ [V.int (u1 : Nat)])) 0 rfl
      rw [show nints l ++ [V.int (u1 : Nat)] = nints (l ++ [u1]) by rw [nints_append]; rfl] at L2 ⊢
      generalize upd _ _ _ = H2 at L2 ⊢
      refine ⟨.inl ⟨rfl, _, L2.sqI 0 rfl⟩, by decide, by decide, _, L2.get 0 rfl, by rw [nints_len, List.length_append, List.length_singleton]; omega, .inl (by decide), by decide, ?_⟩
      have L3 := L2.put (o' := .lst (nints (l ++ [u1]) ++ [V.int (u2 : Nat)])) 0 rfl
      rw [show nints (l ++ [u1]) ++ [V.int (u2 : Nat)] = nints (l ++ [u1] ++ [u2]) from (nints_append (l ++ [u1]) [u2]).symm] at L3 ⊢
      generalize upd _ _ _ = H3 at L3 ⊢
      refine ⟨.inl ⟨rfl, _, L3.sqI 0 rfl⟩, .inl ⟨by omega, by omega⟩, by decide, by decide, by decide, _, L3.get 0 rfl, by rw [nints_len, List.length_append, List.length_append, List.length_singleton, List.length_singleton]; omega, ?_⟩
      have L4 := L3.put (o' := .lst (nints (l ++ [u1] ++ [u2]) ++ [V.int (u3 : Nat)])) 0 rfl
      rw [show nints (l ++ [u1] ++ [u2]) ++ [V.int (u3 : Nat)] = nints (l ++ [u1] ++ [u2] ++ [u3]) from (nints_append (l ++ [u1] ++ [u2]) [u3]).symm] at L4 ⊢
      exact hN _ _ _ ⟨l ++ [u1] ++ [u2] ++ [u3], _, _, _, _, by simp only [List.length_append, List.length_singleton]; omega, L4, rfl⟩
    · rw [if_neg c]
      refine whl (fun m σ H' => ∃ (l' : List Nat) (r j : Nat) (y4 : Option V), m + j = 61 ∧ l'.length ≤ l.length + j ∧ j ≤ 60 ∧ Led H [(p, .lst (nints l'))] H' ∧ σ = [some (.ref a), some (.ref p), some (.int (i : Nat)), some (.int (r : Nat)), y4, some (.int (j : Nat))]) 61 ⟨l, r, 0, _, rfl, Nat.le_refl _, by decide, L1, rfl⟩ ?_
      rintro N2 hN2 m σ H2 ⟨l', r', j, y4', em, hl', hj, L2, rfl⟩
      walk_at "w"
      by_cases c1 : (1000 : Int) ≤ r'
      · rw [if_pos c1]
        by_cases c2 : (j : Int) < 60
        · rw [if_pos c2]
          refine whb ?_
          walk_at "w"
          refine ⟨.inl ⟨rfl, _, L2.sqI 0 rfl⟩, by decide, _, L2.get 0 rfl, by rw [nints_len]; omega, ⟨by decide, by decide⟩, 60 - j, by omega, ?_⟩
          have L3 := L2.put (o' := .lst (nints l' ++ [V.int ((r' : Int) % 1000)])) 0 rfl
          have e3 : nints l' ++ [V.int ((r' : Int) % 1000)] = nints (l' ++ [r' % 1000]) := by rw [nints_append]; simp [nints]
          rw [e3] at L3 ⊢
          refine hN2 _ _ _ ⟨l' ++ [r' % 1000], r' / 1000, j + 1, y4', by omega, by rw [List.length_append, List.length_singleton]; omega, by omega, L3, ?_⟩
          rw [show (r' : Int) / 1000 = ((r' / 1000 : Nat) : Int) by omega, show (j : Int) + 1 = ((j + 1 : Nat) : Int) by omega]
        · rw [if_neg c2]
          exact hN _ _ _ ⟨l', _, _, _, _, by omega, L2, rfl⟩
      · rw [if_neg c1]
        exact hN _ _ _ ⟨l', _, _, _, _, by omega, L2, rfl⟩
  · rintro σ H1 ⟨l, y2, y3, y4, y5, hl, L1, rfl⟩
    walk_at "w"
    refine ⟨_, L1.sqI 0 rfl, fun p2 hp2 => ?_⟩
    rw [show cutV (nints l) none (some 240) = nints (l.take 240) by
      rw [show (240 : Int) = ((240 : Nat) : Int) from rfl, cut_none]
      simp [nints, List.map_take]]
    have L2 := L1.new (o := .lst (nints (l.take 240))) hp2
    exact q p2 _ (l.take 240) (by rw [List.length_take]; omega) (L2.one 0 rfl)
theorem use_draws (L : Led B F H) {ns : List Int} (hS : SqL K H a (ns.map V.int)) (hl : ns.length ≤ 63) (q : ∀ p H' (ds : List Nat), ds.length ≤ 240 → Led B ((p, .lst (nints ds)) :: F) H' → Q (.ref p) H') : sp__law_draws_d K C [.ref a] H Q E :=
  ⟨a, ns, rfl, hS, hl, fun p H' ds h M => q p H' ds h (L.step M)⟩
theorem use_number_d {b most : Nat} (L : Led B F H) (i : Nat) (hF : F[i]? = some (a, .lst (nints ds))) (hl : ds.length ≤ 240) (hb : 2 ≤ b) (hb2 : b ≤ 36) (hm : most ≤ 1000000)
    (q : ∀ H' (ds' : List Nat) (g : Nat), ds'.length ≤ 240 → g ≤ most → Led B (F.set i (a, .lst (nints ds'))) H' → Q (.int g) H') : sp__law_number_d K C [.ref a, .int b, .int most] H Q E :=
  ⟨a, ds, b, most, rfl, L.get i hF, hl, hb, hb2, hm, fun H' ds' g hl' hg M => q H' ds' g hl' hg (L.stepOwn (G := []) i hF M)⟩
theorem use_whole {x : V} (hx : Kn K H x) (q : Q (.bl (isInt x)) H) : sp__law_whole_d K C [x] H Q E := ⟨x, rfl, hx, q⟩
theorem figsZ_len {b : Nat} {i : Int} (hb : 2 ≤ b) (h : i < (lim : Nat)) : (figsZ b i).length ≤ 700 := by
  unfold figsZ
  by_cases c : i < 0
  · rw [if_pos c]
    exact (by decide : 1 ≤ 700)
  · rw [if_neg c]
    exact figs_len_lim hb (by omega)
theorem rd__law_number_d (h : sp__law_number_d K C vs H Q E) : t__law_number_d K C E (fin Q) (start ["draws", "base", "most", "far", "end", "some", "found", "written_so", "k"] vs) H := by
  obtain ⟨a, ds, b, most, rfl, ha, hl, hb, hb2, hm, q⟩ := h
  show t__law_number_d K C E (fin Q) [some (.ref a), some (.int b), some (.int most), none, none, none, none, none, none] H
  unfold t__law_number_d
  have L := Led.own1 ha
  walk_at "w"
  refine use_take (m := 1000) L 0 rfl (by decide) hl fun H1 ds1 g1 hl1 hg1 L1 => ⟨_, rfl, .inl ⟨by omega, by omega⟩, ?_⟩
  refine use_take (m := 1000) L1 0 rfl (by decide) hl1 fun H2 ds2 g2 hl2 hg2 L2 => ⟨_, rfl, by omega, ?_⟩
  rw [show ((g1 : Int) * 1000 + (g2 : Int)) % ((most : Int) + 1) = (((g1 * 1000 + g2) % (most + 1) : Nat) : Int) by push_cast; rfl]
  have hfar : (g1 * 1000 + g2) % (most + 1) ≤ most := Nat.le_of_lt_succ (Nat.mod_lt _ (Nat.succ_pos _))
  generalize (g1 * 1000 + g2) % (most + 1) = far at hfar ⊢
  refine use_take (m := 18) L2 0 rfl (by decide) hl2 fun H3 ds3 g3 hl3 hg3 L3 => ?_
  refine use_power_d hb2 (by omega) ?_
  have hend0 : 0 < b ^ g3 := Nat.pow_pos (by omega)
  have hend : b ^ g3 ≤ 36 ^ 18 := Nat.le_trans (Nat.pow_le_pow_left hb2 _) (Nat.pow_le_pow_right (by decide) (by omega))
  generalize b ^ g3 = en at hend hend0 ⊢
  walk_at "w"
  refine use_take (m := 40) L3 0 rfl (by decide) hl3 fun H4 ds4 g4 hl4 hg4 L4 => ?_
  refine use_take (m := 1000) L4 0 rfl (by decide) hl4 fun H5 ds5 g5 hl5 hg5 L5 => ?_
  refine use_take (m := 5) L5 0 rfl (by decide) hl5 fun H6 ds6 g6 hl6 hg6 L6 => ⟨_, rfl, by decide, fun p7 hp7 => ?_⟩
  have L7 := L6.new (o := .lst [V.int (g4 : Nat), V.int (g5 : Nat), V.int (far : Nat), V.int (far : Nat), V.int (far : Nat), V.int (most : Nat), V.int ((en : Int) + (g6 : Nat) - 2)]) hp7
  generalize upd _ _ _ = H7 at L7 ⊢
  walk_at "w"
  refine use_take (m := 7) L7 1 rfl (by decide) hl6 fun H8 ds8 g8 hl8 hg8 L8 => ?_
  obtain ⟨f, hf, f1, f2⟩ : ∃ f : Int, atI [V.int (g4 : Nat), V.int (g5 : Nat), V.int (far : Nat), V.int (far : Nat), V.int (far : Nat), V.int (most : Nat), V.int ((en : Int) + (g6 : Nat) - 2)] (g8 : Int) = some (.int f) ∧ -1 ≤ f ∧ f < (lim : Nat) := by
    have h36 : 36 ^ 18 + 1000000 < lim := by decide +kernel
    have : g8 = 0 ∨ g8 = 1 ∨ g8 = 2 ∨ g8 = 3 ∨ g8 = 4 ∨ g8 = 5 ∨ g8 = 6 := by omega
    rcases this with rfl | rfl | rfl | rfl | rfl | rfl | rfl
    · exact ⟨_, rfl, by omega, by omega⟩
    · exact ⟨_, rfl, by omega, by omega⟩
    · exact ⟨_, rfl, by omega, by omega⟩
    · exact ⟨_, rfl, by omega, by omega⟩
    · exact ⟨_, rfl, by omega, by omega⟩
    · exact ⟨_, rfl, by omega, by omega⟩
    · exact ⟨_, rfl, by omega, by omega⟩
  refine ⟨_, _, rfl, L8.sqI 0 rfl, _, hf, ?_⟩
  have L8 := L8.one 1 rfl
  refine cut_ (fun σ H' => ∃ (ds : List Nat) (f : Int) (y7 y8 : Option V), ds.length ≤ 240 ∧ Led (rmv H a) [(a, .lst (nints ds))] H' ∧ σ = [some (.ref a), some (.int b), some (.int most), some (.int far), some (.int en), some (.ref p7), some (.int f), y7, y8]) ?_ ?_
  · intro M hM
    walk_at "w"
    refine use_take (m := 4) L8 0 rfl (by decide) hl8 fun H9 ds9 g9 hl9 hg9 L9 => ⟨rfl, ?_⟩
    by_cases c : V.int (g9 : Nat) = V.int 1
    · rw [if_pos c]
      have hmin : -1 ≤ (if (most : Int) < f then (most : Int) else f) ∧ (if (most : Int) < f then (most : Int) else f) < (lim : Nat) := by
        by_cases c2 : (most : Int) < f
        · rw [if_pos c2]
          omega
        · rw [if_neg c2]
          omega
      refine use_figs_d L9 hb hb2 hmin.1 hmin.2 fun p10 H10 L10 => ?_
      have hlen : (figsZ b (if (most : Int) < f then (most : Int) else f)).length ≤ 700 := figsZ_len hb hmin.2
      generalize figsZ b (if (most : Int) < f then (most : Int) else f) = wr at L10 hlen
      walk_at "w"
      refine ⟨_, .inl (L10.sqI 0 rfl), ?_⟩
      rw [nints_len]
      refine ⟨by omega, by omega, ?_⟩
      rw [Int.toNat_natCast]
      refine for_r (fun i σ H' => H' = H10 ∧ ∃ (f : Int) (y8 : Option V), σ = [some (.ref a), some (.int b), some (.int most), some (.int far), some (.int en), some (.ref p7), some (.int f), some (.ref p10), y8]) ⟨rfl, _, _, rfl⟩ ?_ ?_
      · rintro N2 hN2 i σ H11 hi ⟨rfl, f', y8, rfl⟩
        walk_at "w"
        rw [show (0 : Int) + i = (i : Nat) by omega]
        refine ⟨.inr ⟨by omega, by omega⟩, _, .inl (L10.sqI 0 rfl), _, L10.sqI 0 rfl, ?_⟩
        rw [nints_len]
        have e : (if (wr.length : Int) - 1 - i < i then (wr.length : Int) - 1 - i else i) = ((min i (wr.length - 1 - i) : Nat) : Int) := by
          by_cases c2 : (wr.length : Int) - 1 - i < i
          · rw [if_pos c2]; omega
          · rw [if_neg c2]; omega
        rw [e]
        obtain ⟨d, hd⟩ : ∃ d, wr[min i (wr.length - 1 - i)]? = some d := ⟨_, List.getElem?_eq_getElem (by omega)⟩
        refine ⟨_, atI_nat (nints_at hd), _, rfl, ?_⟩
        exact hN2 _ _ _ ⟨rfl, _, _, rfl⟩
      · rintro σ H11 ⟨rfl, f', y8, rfl⟩
        walk_at "w"
        refine use_take (m := 3) L10 1 rfl (by decide) hl9 fun H12 ds12 g12 hl12 hg12 L12 => ⟨_, rfl, ?_⟩
        exact hM _ _ ⟨ds12, _, _, _, hl12, L12.one 1 rfl, rfl⟩
    · rw [if_neg c]
      exact hM _ _ ⟨ds9, _, _, _, hl9, L9, rfl⟩
  · rintro σ H9 ⟨ds9, f9, y7, y8, hl9, L9, rfl⟩
    walk_at "w"
    obtain ⟨g, hg, eg⟩ : ∃ g : Nat, g ≤ most ∧ (if (if f9 < (most : Int) then f9 else (most : Int)) > 0 then (if f9 < (most : Int) then f9 else (most : Int)) else 0) = (g : Int) := by
      refine ⟨(if (if f9 < (most : Int) then f9 else (most : Int)) > 0 then (if f9 < (most : Int) then f9 else (most : Int)) else 0).toNat, ?_, ?_⟩
      · split <;> split <;> omega
      · split <;> split <;> omega
    rw [eg]
    exact q _ _ _ hl9 hg L9
theorem rd__law_mirrored_to_d (h : sp__law_mirrored_to_d K C vs H Q E) : t__law_mirrored_to_d K C E (fin Q) (start ["bound", "base", "found", "size", "half", "first", "number", "rest"] vs) H := by
  obtain ⟨n, b, rfl, hb, hb2, hn, q⟩ := h
  show t__law_mirrored_to_d K C E (fin Q) [some (.int n), some (.int b), none, none, none, none, none, none] H
  unfold t__law_mirrored_to_d
  have hsl := sizeLine_eq
  walk_at "w"
  refine ⟨by decide, fun p hp => ?_⟩
  have L0 := (Led.refl H).new (o := .lst [V.int 0]) hp
  generalize upd _ _ _ = H0 at L0 ⊢
  have hml := mirs_len (b := b) (n := n + 1)
  -- the mirrored ones below x, none above n
  have G : ∀ x, (mirs b (min x (n + 1))).length ≤ 100001 := fun x => Nat.le_trans mirs_len (by omega)
  refine whl (fun m σ H' => ∃ (s : Nat) (y4 y5 y6 y7 : Option V), m = 40 - s ∧ 1 ≤ s ∧ s ≤ 21 ∧ Led H [(p, .lst (nints (0 :: mirs b (min (b ^ (s - 1)) (n + 1)))))] H' ∧ σ = [some (.int n), some (.int b), some (.ref p), some (.int (s : Nat)), y4, y5, y6, y7]) 39 ⟨1, none, none, none, none, rfl, by decide, by decide, ?_, rfl⟩ ?_
  · have e : min (b ^ (1 - 1)) (n + 1) = 1 := by
      rw [Nat.sub_self, Nat.pow_zero]
      omega
    rw [e, mirs_one]
    exact L0
  rintro N hN m σ H1 ⟨s, y4, y5, y6, y7, em, hs1, hs2, L1, rfl⟩
  walk_at "w"
  rw [show (s : Int) - 1 = ((s - 1 : Nat) : Int) by omega]
  refine use_power_d hb2 (by omega) ⟨_, rfl, ?_⟩
  by_cases c : b ^ (s - 1) ≤ n
  · rw [if_pos (by exact_mod_cast c)]
    have hs3 := pow_six hb (Nat.le_trans c (Nat.le_trans hn (by decide)))
    have hu := half_six hb (Nat.le_trans c (Nat.le_trans hn (by decide)))
    refine whb ?_
    walk_at "w"
    rw [show ((s : Int) + 1) / 2 = (((s + 1) / 2 : Nat) : Int) by omega]
    refine ⟨⟨by decide, by decide⟩, ?_⟩
    rw [show (((s + 1) / 2 : Nat) : Int) - 1 = (((s - 1) / 2 : Nat) : Int) by omega]
    refine use_power_d hb2 (by omega) ?_
    have hub : b ^ ((s - 1) / 2) * b = b ^ ((s + 1) / 2) := by
      rw [← Nat.pow_succ]
      congr 1
      omega
    have hult : b ^ ((s - 1) / 2) < b ^ ((s + 1) / 2) := Nat.pow_lt_pow_right (by omega) (by omega)
    have hub2 : b ^ ((s - 1) / 2) * b ≤ 36000 := Nat.mul_le_mul hu hb2
    rw [hub] at hub2
    walk_at "w"
    have hu0 : 0 < b ^ ((s - 1) / 2) := Nat.pow_pos (by omega)
    have hmf := mirs_first (b := b) hb hs1
    have hmh := fun h h1 h2 => mirs_half (b := b) (s := s) (h := h) hb hs1 h1 h2
    have hhf := fun h h1 h2 => Hf.of (b := b) (s := s) (h := h) hb hs1 h1 h2
    have hpb := fun h h1 h2 => pal_bounds (b := b) (s := s) (h := h) hb hs1 h1 h2
    have hU : ∀ {H : Hp} {Q : VK} {E : XK}, Q (.int (b ^ ((s + 1) / 2) : Nat)) H → sp__law_power_d K C [.int b, .int ((s + 1) / 2 : Nat)] H Q E := fun q => use_power_d hb2 (by omega) q
    generalize b ^ ((s - 1) / 2) = u at *
    generalize b ^ ((s + 1) / 2) = U at *
    refine whl (fun m σ H' => ∃ (h num : Nat) (y7 : Option V), m + h = U ∧ u ≤ h ∧ (n < num → n + 1 ≤ (if h < U then pal b s h else b ^ s)) ∧ Led H [(p, .lst (nints (0 :: mirs b (min (if h < U then pal b s h else b ^ s) (n + 1)))))] H' ∧ σ = [some (.int n), some (.int b), some (.ref p), some (.int (s : Nat)), some (.int ((s + 1) / 2 : Nat)), some (.int (h : Nat)), some (.int (num : Nat)), y7]) (U - u) ⟨u, 0, y7, by omega, Nat.le_refl _, fun z => by omega, ?_, rfl⟩ ?_
    · rw [if_pos hult]
      have e : mirs b (min (pal b s u) (n + 1)) = mirs b (min (b ^ (s - 1)) (n + 1)) := by
        have h1 := (hpb u (Nat.le_refl _) hult).2.1
        rw [show min (b ^ (s - 1)) (n + 1) = b ^ (s - 1) by omega]
        exact mirs_mid (by omega) (Nat.min_le_left _ _) hmf
      rw [e]
      exact L1
    rintro N2 hN2 m2 σ H2 ⟨h, num, z7, em2, hh1, hnum, L2, rfl⟩
    have fin1 : (¬ h < U ∨ n < num) → ∃ m', m' < m ∧ N m' [some (.int n), some (.int b), some (.ref p), some (.int ((s : Int) + 1)), some (.int ((s + 1) / 2 : Nat)), some (.int (h : Nat)), some (.int (num : Nat)), z7] H2 := by
      intro z
      refine ⟨39 - s, by omega, hN _ _ _ ⟨s + 1, _, _, _, _, by omega, by omega, by omega, ?_, by rw [show (s : Int) + 1 = ((s + 1 : Nat) : Int) by omega]⟩⟩
      rw [Nat.add_sub_cancel]
      have e : min (if h < U then pal b s h else b ^ s) (n + 1) = min (b ^ s) (n + 1) := by
        by_cases c2 : h < U
        · have h3 := (hpb h hh1 c2).2.2.1
          rcases z with z | z
          · exact absurd c2 z
          · have := hnum z
            rw [if_pos c2] at this ⊢
            omega
        · rw [if_neg c2]
      rw [e] at L2
      exact L2
    walk_at "w"
    refine hU ⟨_, rfl, ?_⟩
    by_cases c1 : h < U
    · rw [if_pos (by omega)]
      by_cases c2 : (num : Int) ≤ n
      · rw [if_pos c2]
        rw [if_pos c1] at L2
        have hf := hhf h hh1 c1
        have hb1 := hpb h hh1 c1
        have hpf := pal_fold hb hf (by omega)
        refine whb ?_
        walk_at "w"
        rw [show (h : Int) / b = ((h / b : Nat) : Int) by omega]
        refine ⟨⟨by omega, by omega⟩, by decide, fun p3 hp3 => ⟨by decide, ?_⟩⟩
        have L3 := L2.new (o := .lst [V.int (h / b : Nat), V.int (h : Nat)]) hp3
        generalize upd _ _ _ = H3 at L3 ⊢
        obtain ⟨r, hr, er⟩ : ∃ r : Nat, atI [V.int (h / b : Nat), V.int (h : Nat)] (if (s : Int) % 2 = 0 then 1 else 0) = some (.int (r : Nat)) ∧ r = (if s % 2 = 0 then h else h / b) := by
          by_cases c3 : s % 2 = 0
          · rw [if_pos (by omega), if_pos c3]
            exact ⟨h, rfl, rfl⟩
          · rw [if_neg (by omega), if_neg c3]
            exact ⟨h / b, rfl, rfl⟩
        refine ⟨_, L3.sqI 0 rfl, _, hr, ?_⟩
        have L3 := L3.one 1 rfl
        rw [← er] at hpf
        refine whl (fun m σ H' => ∃ (x r : Nat), m = r ∧ (D0 b r).foldl (fun a d => a * b + d) x = pal b s h ∧ H' = H3 ∧ σ = [some (.int n), some (.int b), some (.ref p), some (.int (s : Nat)), some (.int ((s + 1) / 2 : Nat)), some (.int (h : Nat)), some (.int (x : Nat)), some (.int (r : Nat))]) r ⟨h, r, rfl, hpf, rfl, rfl⟩ ?_
        rintro N4 hN4 m4 σ H4 ⟨x, r', em4, hx, rfl, rfl⟩
        have em4 := em4.symm
        subst em4
        walk_at "w"
        by_cases c5 : 0 < r'
        · rw [if_pos (by omega)]
          refine whb ?_
          walk_at "w"
          rw [D0_step hb c5] at hx
          refine ⟨.inr ⟨by omega, by omega⟩, by omega, ⟨by omega, by omega⟩, r' / b, Nat.div_lt_self c5 (by omega), hN4 _ _ _ ⟨x * b + r' % b, r' / b, rfl, hx, rfl, ?_⟩⟩
          rw [show (x : Int) * b + (r' : Int) % b = ((x * b + r' % b : Nat) : Int) by push_cast; rfl, show (r' : Int) / b = ((r' / b : Nat) : Int) by omega]
        · rw [if_neg (by omega)]
          have er0 : r' = 0 := by omega
          rw [er0] at hx
          have hx : x = pal b s h := hx
          subst hx
          have hst := hmh h hh1 c1
          have hgt : pal b s h < (if h + 1 < U then pal b s (h + 1) else b ^ s) := by
            by_cases c6 : h + 1 < U
            · rw [if_pos c6]
              exact pal_mono hb hf.le2 (hhf (h + 1) (by omega) c6).le2 (by omega)
            · rw [if_neg c6]
              exact hb1.2.2.1
          have hp1 : mirs b (pal b s h + 1) = mirs b (pal b s h) ++ [pal b s h] := by rw [mirs_succ, if_pos ⟨hb1.2.2.2, hb1.1⟩]
          refine cut_ (fun σ H' => Led H [(p, .lst (nints (0 :: mirs b (min (if h + 1 < U then pal b s (h + 1) else b ^ s) (n + 1)))))] H' ∧ σ = [some (.int n), some (.int b), some (.ref p), some (.int (s : Nat)), some (.int ((s + 1) / 2 : Nat)), some (.int (h : Nat)), some (.int (pal b s h : Nat)), some (.int (r' : Nat))]) ?_ ?_
          · intro M hM
            walk_at "w"
            by_cases c7 : pal b s h ≤ n
            · rw [if_pos (by omega)]
              have hlen := G (pal b s h)
              refine ⟨.inl ⟨rfl, _, L3.sqI 0 rfl⟩, _, L3.get 0 rfl, by rw [nints_len, List.length_cons, hsl]; omega, ?_⟩
              have L5 := L3.put (o' := .lst (nints (0 :: mirs b (min (pal b s h) (n + 1))) ++ [V.int (pal b s h : Nat)])) 0 rfl
              have e5 : nints (0 :: mirs b (min (pal b s h) (n + 1))) ++ [V.int (pal b s h : Nat)] = nints (0 :: mirs b (min (if h + 1 < U then pal b s (h + 1) else b ^ s) (n + 1))) := by
                have e6 : mirs b (min (if h + 1 < U then pal b s (h + 1) else b ^ s) (n + 1)) = mirs b (pal b s h) ++ [pal b s h] := by
                  rw [← hp1]
                  refine mirs_mid (by omega) (Nat.min_le_left _ _) ?_
                  rw [hst, hp1]
                rw [e6, show min (pal b s h) (n + 1) = pal b s h by omega]
                show nints (0 :: mirs b (pal b s h)) ++ nints [pal b s h] = nints ((0 :: mirs b (pal b s h)) ++ [pal b s h])
                rw [nints_append]
              rw [e5] at L5 ⊢
              exact hM _ _ ⟨L5, rfl⟩
            · rw [if_neg (by omega)]
              refine hM _ _ ⟨?_, rfl⟩
              rw [show min (if h + 1 < U then pal b s (h + 1) else b ^ s) (n + 1) = min (pal b s h) (n + 1) by omega]
              exact L3
          · rintro σ H5 ⟨L5, rfl⟩
            walk_at "w"
            refine ⟨U - (h + 1), by omega, hN2 _ _ _ ⟨h + 1, pal b s h, some (.int (r' : Nat)), by omega, by omega, fun z => by omega, L5, ?_⟩⟩
            rw [show (h : Int) + 1 = ((h + 1 : Nat) : Int) by omega]
      · rw [if_neg c2]
        exact fin1 (Or.inr (by omega))
    · rw [if_neg (by omega)]
      exact fin1 (Or.inl c1)
  · rw [if_neg (by exact_mod_cast c)]
    walk_at "w"
    rw [show min (b ^ (s - 1)) (n + 1) = n + 1 by omega] at L1
    exact q p H1 L1
end
end Mi

namespace Mi
open PySem PySem.Spec PyProof.Rows L2
local macro_rules
  | `(tactic| walk_at "w") => `(tactic| try simp only [a_seq, a_next, a_tru, tru_bl, b_isB, b_notB, b_mulS, b_addS, b_intS, b_lstRg, b_rg1, b_rg2, a_to, b_geLI, b_dictP, a_dIn, a_dNotIn, b_popAt, b_abs, a_glst, a_dput, a_dnewK, a_dnewT, b_sortI, a_iR3, b_reprV, b_countD, isi_ii, isi_ib, isi_bi, isi_bb, a_asg, a_name, a_var, a_c, a_op, a_un, a_rI, a_rI0, a_rU, a_ret, a_retN, a_ifS, a_drop, a_aug, a_ipI, a_test, a_B, a_and, a_or, a_not, a_andV, a_orV, a_notV, a_ifE, a_nil, a_cons, a_lst, a_tup, a_cb, a_go, a_bm, a_bm0, a_sl, a_po, a_pn,
      a_gsub, a_gnil, a_gcons, a_gtup, a_chain, a_eq, a_ne, a_yes, a_revL, a_slL, a_ixL, a_ixT, a_append, a_setL, a_cat, a_for, a_lc, a_iL, a_iT, a_iR1, a_iR2, a_iE, a_iZ, a_iS, b_lenL, b_int1b, b_int1i, b_listOf, b_max2, b_min2, b_sum, b_rep, b_eqLI0, b_eqLI1, b_isN, b_notN, b_listEnum, b_raise0,
      List.getElem?_cons_zero, List.getElem?_cons_succ, List.set_cons_zero, List.set_cons_succ, Option.some.injEq, V.int.injEq, V.ref.injEq, V.bl.injEq, V.str.injEq, List.cons.injEq, and_true, true_and, exists_eq_left', exists_eq_left, exists_eq_right, exists_eq_right', exists_and_left, exists_eq', exists_eq, decide_eq_true_eq, scal_ii, scal_bb, scal_ss, wipe, ↓reduceIte, reduceCtorEq,
      Bool.not_eq_true', Bool.false_eq_true, not_false_eq_true, not_true_eq_false, if_true, if_false, decide_eq_false_iff_not, List.length_cons, List.length_nil, Nat.zero_add, CDiv, CMul, CPow])
local macro_rules
  | `(tactic| walk_at "z") => `(tactic| first | omega | (rw [sizeLine_eq]; simp only [List.length_append, List.length_map, List.length_cons, List.length_nil, List.length_reverse, nints]; omega) | decide | (simp only [List.length_append, List.length_map, List.length_cons, List.length_nil]; omega))
section
variable {K : PySem.W.Frag} {C : Str → Addr} {H B : Hp} {Q : VK} {E : XK} {F : List (Addr × HO)} {vs : List V} {a : Addr} {ds : List Nat}
theorem figs_at {b n i : Nat} (h : i < ln b n) : (nints (figs b n))[i]? = some (.int ((figs b n).getD i 0 : Nat)) := by
  refine nints_at ?_
  rw [List.getD_eq_getElem?_getD, List.getElem?_eq_getElem h]
  rfl
theorem lim6 {n : Nat} (h : n ≤ 1000000) : n < lim := Nat.lt_of_le_of_lt h (by decide +kernel)
theorem lim61 {n : Nat} (h : n ≤ 1000000) : n < lim1 := Nat.lt_of_le_of_lt h (by decide +kernel)
theorem rd_first_unlike (h : sp_first_unlike K C vs H Q E) : t_first_unlike K C E (fin Q) (start ["number", "base", "some", "place", "figure"] vs) H := by
  obtain ⟨n, b, rfl, hb, hb2, hn, q⟩ := h
  show t_first_unlike K C E (fin Q) [some (.int n), some (.int b), none, none, none] H
  unfold t_first_unlike
  walk_at "w"
  refine use_figures (Led.refl H) hb hb2 hn fun p1 H1 L1 => ?_
  walk_at "w"
  refine ⟨_, L1.sqI 0 rfl, ?_⟩
  refine for_e (fun i σ H' => Led H1 [] H' ∧ (∀ j, j < i → (figs b n).getD j 0 = (figs b n).getD (ln b n - 1 - j) 0) ∧ ∃ y3 y4, σ = [some (.int n), some (.int b), some (.ref p1), y3, y4]) ⟨Led.refl _, fun j hj => absurd hj (Nat.not_lt_zero j), _, _, rfl⟩ (fun i σ H' _ h => SqL.of (h.1.base _ _ (L1.get 0 rfl))) ?_ ?_
  · rintro N hN i x σ H2 H3 hx ⟨L2, hj, y3, y4, rfl⟩ L3
    have hi := lt_of_get hx
    rw [nints_len] at hi
    have hi : i < ln b n := hi
    rw [figs_at hi] at hx
    cases hx
    have L3 : Led H1 [] H3 := L2.step0 L3
    walk_at "w"
    have hs : SqL K H3 p1 (nints (figs b n)) := SqL.of (L3.base _ _ (L1.get 0 rfl))
    refine ⟨_, .inl hs, _, hs, ?_⟩
    rw [nints_len, show ((figs b n).length : Int) - 1 - (i : Nat) = ((ln b n - 1 - i : Nat) : Int) by show ((ln b n : Nat) : Int) - 1 - (i : Nat) = _; omega]
    refine ⟨_, atI_nat (figs_at (by omega)), rfl, ?_⟩
    by_cases c : (figs b n).getD i 0 = (figs b n).getD (ln b n - 1 - i) 0
    · rw [if_neg (by rw [c]; exact fun z => z rfl)]
      refine hN _ _ _ ⟨L3, fun j hj2 => ?_, _, _, rfl⟩
      rcases Nat.lt_or_ge j i with z | z
      · exact hj j z
      · rw [show j = i by omega]
        exact c
    · rw [if_pos (fun z => c (by have := V.int.inj z; omega))]
      obtain ⟨r, er⟩ := unl_first hj hi c
      exact (q H3 (L1.none.step0 L3)).2 i r er
  · rintro σ H2 ⟨L2, hj, y3, y4, rfl⟩
    walk_at "w"
    rw [nints_len] at hj
    exact (q H2 (L1.none.step0 L2)).1 (unl_none hj)
theorem use_unlike {n b : Nat} (L : Led B F H) (hb : 2 ≤ b) (hb2 : b ≤ 36) (hn : n < lim) (q : ∀ H', Led B F H' → (unl b n = [] → Q .non H') ∧ (∀ k r, unl b n = k :: r → Q (.int (k : Nat)) H')) : sp_first_unlike K C [.int n, .int b] H Q E :=
  ⟨n, b, rfl, hb, hb2, hn, fun H' M => q H' (L.step0 M)⟩
theorem rd_firsts_of (h : sp_firsts_of K C vs H Q E) : t_firsts_of K C E (fin Q) (start ["number", "base", "found", "here"] vs) H := by
  obtain ⟨n, b, rfl, hb, hb2, hn, q⟩ := h
  show t_firsts_of K C E (fin Q) [some (.int n), some (.int b), none, none] H
  unfold t_firsts_of
  walk_at "w"
  refine ⟨by decide, fun p hp => ?_⟩
  have L0 := (Led.refl H).new (o := .lst []) hp
  generalize upd _ _ _ = H0 at L0 ⊢
  walk_at "w"
  -- found: 0 and the mirrored ones below here
  refine whl (fun m σ H' => ∃ h : Nat, m = n + 1 - h ∧ mir b h = true ∧ (h = 0 → Led H [(p, .lst [])] H') ∧ (0 < h → Led H [(p, .lst (nints (0 :: mirs b (min h (n / 2 + 1)))))] H') ∧ σ = [some (.int n), some (.int b), some (.ref p), some (.int (h : Nat))]) (n + 1) ⟨0, rfl, mir_zero hb, fun _ => L0, fun z => absurd z (by decide), rfl⟩ ?_
  rintro N hN m σ H1 ⟨h, em, hm, hz, hpz, rfl⟩
  have hsl := sizeLine_eq
  walk_at "w"
  refine ⟨.inl (by decide), ?_⟩
  by_cases c : 2 * h ≤ n
  · rw [if_pos (by omega)]
    refine whb ?_
    walk_at "w"
    obtain ⟨l, hl, L1, hlen⟩ : ∃ l, l ++ [h] = 0 :: mirs b (h + 1) ∧ Led H [(p, .lst (nints l))] H1 ∧ l.length ≤ n + 2 := by
      by_cases c2 : h = 0
      · subst c2
        exact ⟨[], rfl, hz rfl, Nat.zero_le _⟩
      · have L1 := hpz (by omega)
        rw [show min h (n / 2 + 1) = h by omega] at L1
        refine ⟨0 :: mirs b h, ?_, L1, ?_⟩
        · rw [mirs_succ, if_pos ⟨by omega, hm⟩]
          rfl
        · have := mirs_len (b := b) (n := h)
          rw [List.length_cons]
          omega
    refine ⟨.inl ⟨rfl, _, L1.sqI 0 rfl⟩, _, L1.get 0 rfl, by rw [nints_len]; omega, ?_⟩
    have L2 := L1.put (o' := .lst (nints l ++ [V.int (h : Nat)])) 0 rfl
    rw [show nints l ++ [V.int (h : Nat)] = nints (0 :: mirs b (h + 1)) by rw [← hl, nints_append]; rfl] at L2 ⊢
    generalize upd _ _ _ = H2 at L2 ⊢
    rw [show (h : Int) + 1 = ((h + 1 : Nat) : Int) by omega]
    refine use_high L2 hb hb2 (lim61 (by omega)) fun H3 L3 => ?_
    have g1 := high_ge (n := h + 1) hb
    have g2 := high_mir (n := h + 1) hb
    refine ⟨n + 1 - highM b (h + 1), by omega, hN _ _ _ ⟨highM b (h + 1), rfl, g2, fun z => by omega, fun _ => ?_, rfl⟩⟩
    have e : mirs b (min (highM b (h + 1)) (n / 2 + 1)) = mirs b (h + 1) := by
      refine mirs_mid (hi := highM b (h + 1)) (by omega) (Nat.min_le_left _ _) ?_
      refine mirs_same (by omega) fun x h1 h2 _ => ?_
      cases ex : mir b x with
      | false => rfl
      | true =>
        have := high_min hb ex h1
        omega
    rw [e]
    exact L3
  · rw [if_neg (by omega)]
    walk_at "w"
    have L1 := hpz (by omega)
    rw [show min h (n / 2 + 1) = n / 2 + 1 by omega] at L1
    exact q p H1 L1
theorem use_firsts {n b : Nat} (L : Led B F H) (hb : 2 ≤ b) (hb2 : b ≤ 36) (hn : n ≤ 1000000) (q : ∀ p H', Led B ((p, .lst (nints (firsts b n))) :: F) H' → Q (.ref p) H') : sp_firsts_of K C [.int n, .int b] H Q E :=
  ⟨n, b, rfl, hb, hb2, hn, fun p H' M => q p H' (L.step M)⟩
theorem pap_some {b n : Nat} {ps : List (Nat × Nat)} (h : pap b n = some ps) : (∀ m ∈ firsts b n, unl b (n - m) ≠ []) ∧ ps = (firsts b n).map fun m => (m, (unl b (n - m)).headD 0) := by
  unfold pap at h
  by_cases c : (firsts b n).all (fun m => !(unl b (n - m)).isEmpty) = true
  · rw [if_pos c] at h
    refine ⟨fun m hm z => ?_, (Option.some.inj h).symm⟩
    have := List.all_eq_true.mp c m hm
    rw [z] at this
    cases this
  · rw [if_neg c] at h
    cases h
theorem pap_of {b n : Nat} (h : ∀ m ∈ firsts b n, unl b (n - m) ≠ []) : pap b n = some ((firsts b n).map fun m => (m, (unl b (n - m)).headD 0)) := by
  unfold pap
  rw [if_pos (List.all_eq_true.mpr fun m hm => by
    have := h m hm
    cases e : unl b (n - m) with
    | nil => exact absurd e this
    | cons _ _ => rfl)]
theorem pap_no {b n m : Nat} (hm : m ∈ firsts b n) (h : unl b (n - m) = []) : pap b n = none := by
  unfold pap
  rw [if_neg (fun z => by
    have := List.all_eq_true.mp z m hm
    rw [h] at this
    cases this)]
theorem tupF_snoc {as : List Addr} {ps : List (Nat × Nat)} {a : Addr} {x : Nat × Nat} (h : as.length = ps.length) : tupF (as ++ [a]) (ps ++ [x]) = tupF as ps ++ [(a, .tup [.int (x.1 : Nat), .int (x.2 : Nat)])] := by
  unfold tupF
  rw [List.map_append, List.zip_append (by rw [List.length_map]; exact h)]
  rfl
theorem rd_paper_of (h : sp_paper_of K C vs H Q E) : t_paper_of K C E (fin Q) (start ["number", "base", "found", "one", "place"] vs) H := by
  obtain ⟨n, b, rfl, hb, hb2, hn, q0, q1⟩ := h
  show t_paper_of K C E (fin Q) [some (.int n), some (.int b), none, none, none] H
  unfold t_paper_of
  have hsl := sizeLine_eq
  have hfl := firsts_len (b := b) (n := n)
  walk_at "w"
  refine ⟨by decide, fun p hp => ?_⟩
  have L0 := (Led.refl H).new (o := .lst []) hp
  generalize upd _ _ _ = H0 at L0 ⊢
  refine use_firsts L0 hb hb2 hn fun p2 H1 L1 => ⟨_, rfl, ⟨_, L1.sqI 0 rfl⟩, ?_⟩
  refine for_ln (l := firsts b n) (fun i σ H' => ∃ (as : List Addr) (y3 y4 : Option V), as.length = i ∧ (∀ m ∈ (firsts b n).take i, unl b (n - m) ≠ []) ∧ Led H ((p2, .lst (nints (firsts b n))) :: (p, .lst (as.map V.ref)) :: tupF as (((firsts b n).take i).map fun m => (m, (unl b (n - m)).headD 0))) H' ∧ σ = [some (.int n), some (.int b), some (.ref p), y3, y4])
    ⟨[], none, none, rfl, fun m hm => (nomatch hm), L1, rfl⟩ (fun i σ H' _ ⟨_, _, _, _, _, L, _⟩ => L.sqI 0 rfl) ?_ ?_
  · rintro N hN i m σ H2 hm ⟨as, y3, y4, hal, hun, L2, rfl⟩
    have hmem := List.mem_of_getElem? hm
    have hm2 := firsts_le hmem
    have hil := lt_of_get hm
    have hlt : ((firsts b n).take i).length = i := by
      rw [List.length_take]
      omega
    walk_at "w"
    rw [show (n : Int) - m = ((n - m : Nat) : Int) by omega]
    refine use_unlike L2 hb hb2 (lim6 (by omega)) fun H3 L3 => ⟨fun e => ?_, fun k r e => ?_⟩
    · walk_at "w"
      exact q0 (pap_no hmem e) H3 L3.none
    · walk_at "w"
      refine ⟨.inl ⟨rfl, _, L3.sqI 1 rfl⟩, by decide, fun t ht => ?_⟩
      have L4 := L3.new (o := .tup [V.int (m : Nat), V.int (k : Nat)]) ht
      generalize upd _ _ _ = H4 at L4 ⊢
      refine ⟨_, L4.get 2 rfl, by rw [List.length_map]; omega, ?_⟩
      have L5 := L4.put (o' := .lst (as.map V.ref ++ [V.ref t])) 2 rfl
      refine hN _ _ _ ⟨as ++ [t], _, _, by rw [List.length_append, hal]; rfl, ?_, ?_, rfl⟩
      · intro x hx
        rw [take_succ_get hm] at hx
        rcases List.mem_append.mp hx with z | z
        · exact hun x z
        · rw [List.mem_singleton.mp z, e]
          exact fun z => nomatch z
      · rw [take_succ_get hm, List.map_append, List.map_append]
        rw [show ([m].map fun m => (m, (unl b (n - m)).headD 0)) = [(m, k)] by rw [List.map_singleton, e]; rfl, tupF_snoc (by rw [List.length_map, hlt, hal])]
        refine L5.perm ?_
        rw [List.set_cons_succ, List.set_cons_succ, List.set_cons_zero]
        refine (List.Perm.swap _ _ _).trans (List.Perm.cons _ ?_)
        refine (List.Perm.swap _ _ _).trans (List.Perm.cons _ ?_)
        exact List.perm_append_comm (l₁ := [_]) (l₂ := tupF as _)
  · rintro σ H2 ⟨as, y3, y4, hal, hun, L2, rfl⟩
    walk_at "w"
    rw [List.take_of_length_le (Nat.le_refl _)] at hun L2
    exact q1 _ (pap_of hun) p as H2 (by rw [List.length_map]; exact hal) L2.tail
theorem use_paper {n b : Nat} (L : Led B F H) (hb : 2 ≤ b) (hb2 : b ≤ 36) (hn : n ≤ 1000000) (q0 : pap b n = none → ∀ H', Led B F H' → Q .non H')
    (q1 : ∀ ps, pap b n = some ps → ∀ p as H', as.length = ps.length → Led B (((p, .lst (as.map V.ref)) :: tupF as ps) ++ F) H' → Q (.ref p) H') : sp_paper_of K C [.int n, .int b] H Q E :=
  ⟨n, b, rfl, hb, hb2, hn, fun e H' M => q0 e H' (L.step0 M), fun ps e p as H' hl M => q1 ps e p as H' hl (L.step M)⟩
/-- a tuple's type -/
theorem ty_tup {a : Addr} {xs : List V} (h : SqT K H a xs) : ∃ t, TyY K H (.ref a) t ∧ PySem.W.kitOne K t (.type "tuple") = some true := by
  rcases h with (h | ⟨o, h⟩) | h
  · exact ⟨_, .inl (.base (.tup h)), kit_ty (by decide +kernel)⟩
  · exact ⟨_, .inl (.fTuple h), kit_ty (by decide +kernel)⟩
  · obtain ⟨o, its, n, h1, h2, _⟩ := h
    exact ⟨_, .inl (.kTuple h1 h2), kit_ty (by decide +kernel)⟩
theorem isi_any {x : V} {t : Value} {c : String} {k : Bool} (h1 : TyY K H x t) (h2 : PySem.W.kitOne K t (.type c) = some k) (q : Q (.bl k) H) : rIsiY K [x, .ty c] H Q := ⟨x, .ty c, t, .type c, k, rfl, .ty _, h1, h2, q⟩
theorem Led.tyy {x : V} {t : Value} (L : Led B F H) (h : TyY K B x t) : TyY K H x t := h.mono L
theorem Led.rw {y : V} (L : Led B F H) : ∀ {r : Option (List V)}, Rw K B y r → Rw K H y r
  | some ps, ⟨a, h1, h2, h3, h4⟩ => ⟨a, h1, L.st h2, h3, fun z hz => (h4 z hz).mono L⟩
  | Option.none, ⟨t, h1, h2⟩ => ⟨t, L.tyy h1, h2⟩
theorem isBl_of {z : V} (h1 : isInt z = false) (h2 : isIB z = true) : isBl z = true := by cases z <;> simp_all [isInt, isIB, isBl]
theorem rowV_no {b n one : Nat} {u v z : V} (hz : isInt z = false) (hm : z ∈ [u, v]) : rowV b n one (some [u, v]) = false := by
  simp only [List.mem_cons, List.not_mem_nil, or_false] at hm
  cases u <;> cases v <;> first | rfl | (exfalso; rcases hm with rfl | rfl <;> cases hz)
theorem rowV_two {b n one : Nat} {ps : List V} (h : ps.length ≠ 2) : rowV b n one (some ps) = false := by
  match ps, h with
  | [], _ => rfl
  | [_], _ => rfl
  | _ :: _ :: _ :: _, _ => rfl
  | [_, _], h => exact absurd rfl h
theorem rd_is_row (h : sp_is_row K C vs H Q E) : t_is_row K C E (fin Q) (start ["number", "base", "one", "thing", "some", "part"] vs) H := by
  obtain ⟨n, b, one, y, r, rfl, hb, hb2, hn, hone, hr, q⟩ := h
  show t_is_row K C E (fin Q) [some (.int n), some (.int b), some (.int one), some y, none, none] H
  unfold t_is_row
  have hsl := sizeLine_eq
  walk_at "w"
  cases r with
  | none =>
    obtain ⟨t, h1, h2⟩ := hr
    refine isi_any h1 h2 ⟨_, rfl, ?_⟩
    rw [if_pos rfl]
    exact q _ (Led.refl H)
  | some ps =>
    obtain ⟨a, rfl, hS, hlen, hK⟩ := hr
    obtain ⟨t, h1, h2⟩ := ty_tup hS
    refine isi_any h1 h2 ⟨_, rfl, ?_⟩
    rw [if_neg (fun z => nomatch z)]
    walk_at "w"
    refine ⟨_, .inr hS, ?_⟩
    by_cases c : ps.length = 2
    · rw [if_neg (fun z => z (by omega))]
      obtain ⟨u, v, rfl⟩ : ∃ u v, ps = [u, v] := by
        match ps, c with
        | [u, v], _ => exact ⟨u, v, rfl⟩
      refine ⟨⟨_, hS⟩, fun P hP => ?_⟩
      refine lc_led walk_tup (Led.refl H) hP (fun i => (([u, v] : List V).take i).filter fun z => !isInt z) rfl (fun H' L' => L'.st hS) ?_ ?_
      · rintro i z H1 H1' hi L1 ⟨e, hz⟩
        subst e
        have hkz : Kn K _ z := (hK z (List.mem_of_getElem? hz)).mono L1.tail
        refine ⟨rfl, ?_⟩
        have e : (([u, v] : List V).take (i + 1)).filter (fun z => !isInt z) = (([u, v] : List V).take i).filter (fun z => !isInt z) ++ if (!isInt z) = true then [z] else [] := by
          rw [take_succ_get hz, List.filter_append]
          congr 1
          rw [List.filter_cons, List.filter_nil]
        have hlen2 : ((([u, v] : List V).take i).filter fun z => !isInt z).length < sizeLine := by
          have h1 := List.length_filter_le (fun z => !isInt z) (([u, v] : List V).take i)
          rw [List.length_take] at h1
          have : ([u, v] : List V).length = 2 := rfl
          omega
        walk_at "w"
        refine isi_int hkz ⟨_, rfl, ?_⟩
        cases hI : isInt z with
        | true =>
          have h1 : isIB z = true := by cases z <;> first | rfl | cases hI
          have h2 : isBl z = false := by cases z <;> first | rfl | cases hI
          rw [h1, if_neg (fun z => nomatch z)]
          refine isi_bool hkz ⟨_, rfl, ?_⟩
          rw [h2, if_neg Bool.false_ne_true]
          rw [hI] at e
          exact lc_n L1 (by rw [e]; simp)
        | false =>
          rw [hI] at e
          rw [if_pos (show (!false) = true from rfl)] at e
          have put := lc_y (y := z) L1 e hlen2
          cases hIB : isIB z with
          | false =>
            rw [if_pos rfl]
            exact put
          | true =>
            rw [if_neg (fun z => nomatch z)]
            refine isi_bool hkz ⟨_, rfl, ?_⟩
            have h2 : isBl z = true := isBl_of hI hIB
            rw [h2, if_pos rfl]
            exact put
      · intro H1 L1
        rw [show ([u, v] : List V).take [u, v].length = [u, v] from rfl] at L1
        refine ⟨by decide, fun p2 hp2 => ?_⟩
        have L2 := L1.new (o := .lst []) hp2
        generalize upd _ _ _ = H2 at L2 ⊢
        have hS2 := L2.st hS
        have hP2 : SqL K H2 P ((([u, v] : List V)).filter fun z => !isInt z) := L2.sqI 1 rfl
        have hN2 : SqL K H2 p2 [] := L2.sqI 0 rfl
        rw [b_eqNil1]
        refine ⟨P, p2, _, rfl, rfl, hP2, hN2, _, rfl, ?_⟩
        have no := fun (z : V) (hz : isInt z = false) (hm : z ∈ [u, v]) => rowV_no (b := b) (n := n) (one := one) hz hm
        cases hu : isInt u with
        | false =>
          rw [show (!(([u, v] : List V).filter fun z => !isInt z).isEmpty) = true by rw [List.filter_cons, hu]; rfl, if_pos rfl]
          have := q H2 L2.none
          rw [no u hu (by simp)] at this
          exact this
        | true =>
        cases hv : isInt v with
        | false =>
          rw [show (!(([u, v] : List V).filter fun z => !isInt z).isEmpty) = true by rw [List.filter_cons, hu, List.filter_cons, hv]; rfl, if_pos rfl]
          have := q H2 L2.none
          rw [no v hv (by simp)] at this
          exact this
        | true =>
        rw [show (!(([u, v] : List V).filter fun z => !isInt z).isEmpty) = false by rw [List.filter_cons, hu, List.filter_cons, hv]; rfl, if_neg Bool.false_ne_true]
        obtain ⟨i, rfl⟩ : ∃ i, u = .int i := by cases u <;> first | exact ⟨_, rfl⟩ | cases hu
        obtain ⟨j, rfl⟩ : ∃ j, v = .int j := by cases v <;> first | exact ⟨_, rfl⟩ | cases hv
        have q : ∀ H', Led H [] H' → Q (.bl (rowB b n one i j)) H' := q
        unfold rowB at q
        refine ⟨_, hS2, _, rfl, rfl, ?_⟩
        by_cases ci : i = (one : Nat)
        · rw [if_neg (fun z => z (by rw [ci]))]
          rw [decide_eq_true ci, Bool.true_and] at q
          rw [show (n : Int) - one = ((n - one : Nat) : Int) by omega]
          refine use_figures L2 hb hb2 (lim6 (by omega)) fun p3 H3 L3 => ?_
          have hS3 := L3.st hS
          have hf3 : SqL K H3 p3 (nints (figs b (n - one))) := L3.sqI 0 rfl
          refine ⟨_, hS3, _, rfl, _, rfl, ?_⟩
          by_cases c0 : 0 ≤ j
          · rw [if_pos c0]
            rw [decide_eq_true c0, Bool.true_and] at q
            refine ⟨_, rfl, _, .inl hf3, _, rfl, ?_⟩
            rw [nints_len]
            have hlb : ((figs b (n - one)).length : Int) = (ln b (n - one) : Nat) := rfl
            rw [hlb]
            by_cases c1 : j < (ln b (n - one) : Nat)
            · rw [if_pos c1]
              rw [decide_eq_true c1, Bool.true_and] at q
              obtain ⟨k, rfl⟩ := Int.eq_ofNat_of_zero_le c0
              have hk : k < ln b (n - one) := by omega
              refine ⟨_, hS3, _, rfl, _, rfl, _, _, rfl, hf3, _, atI_nat (figs_at hk), _, rfl, _, .inl hf3, _, hS3, _, rfl, _, rfl, ?_⟩
              rw [nints_len, hlb, show ((ln b (n - one) : Nat) : Int) - 1 - (k : Nat) = ((ln b (n - one) - 1 - k : Nat) : Int) by omega]
              refine ⟨_, rfl, _, hf3, _, atI_nat (figs_at (by omega)), rfl, ?_⟩
              have := q _ L3.none
              have e : (!decide (V.int ((figs b (n - one)).getD k 0 : Nat) = V.int ((figs b (n - one)).getD (ln b (n - one) - 1 - k) 0 : Nat))) = decide ((figs b (n - one)).getD ((k : Nat) : Int).toNat 0 ≠ (figs b (n - one)).getD (ln b (n - one) - 1 - ((k : Nat) : Int).toNat) 0) := by
                rw [Int.toNat_natCast]
                apply Bool.eq_iff_iff.mpr
                rw [Bool.not_eq_true', decide_eq_false_iff_not, decide_eq_true_eq]
                exact not_congr ⟨fun z => by have := V.int.inj z; omega, fun z => by rw [z]⟩
              rw [e]
              exact this
            · rw [if_neg c1]
              rw [decide_eq_false c1, Bool.false_and] at q
              exact q _ L3.none
          · rw [if_neg c0]
            rw [decide_eq_false c0, Bool.false_and] at q
            exact q _ L3.none
        · rw [if_pos (fun z => ci (V.int.inj z))]
          have := q H2 L2.none
          rw [decide_eq_false ci, Bool.false_and] at this
          exact this
    · rw [if_pos (by omega)]
      have := q _ (Led.refl H)
      rw [rowV_two c] at this
      exact this
theorem rd_is_paper (h : sp_is_paper K C vs H Q E) : t_is_paper K C E (fin Q) (start ["number", "base", "thing", "firsts", "one", "row"] vs) H := by
  obtain ⟨n, b, y, rfl, hb, hb2, hn, hq⟩ := h
  show t_is_paper K C E (fin Q) [some (.int n), some (.int b), some y, none, none, none] H
  unfold t_is_paper
  have hsl := sizeLine_eq
  have hfl := firsts_len (b := b) (n := n)
  walk_at "w"
  refine use_is (Led.refl H) hb hb2 (lim6 hn) fun H1 L1 => ?_
  rcases hq with ⟨a, xs, rs, rfl, ha, hl, hr, q⟩ | ⟨t, h1, h2, q⟩
  · refine isi_list (L1.base _ _ ha) ⟨_, rfl, ?_⟩
    rw [if_neg (fun z => nomatch z)]
    refine use_firsts L1 hb hb2 hn fun p2 H2 L2 => ?_
    walk_at "w"
    have hsx : SqL K H2 a xs := SqL.of (L2.base _ _ ha)
    refine ⟨_, .inl hsx, _, .inl (L2.sqI 0 rfl), ?_⟩
    rw [nints_len]
    by_cases c : xs.length = (firsts b n).length
    · rw [if_neg (fun z => z (by omega))]
      refine ⟨_, _, ⟨rfl, rfl⟩, _, L2.sqI 0 rfl, _, hsx, fun P hP => ?_⟩
      refine lc_z L2 hP (fun H' L' => ⟨L'.sqI 0 rfl, SqL.of (L'.base _ _ ha)⟩) (fun i => nints ((((firsts b n).zip rs).take i).filterMap fun z => if rowV b n z.1 z.2 = true then none else some z.1)) rfl ?_ ?_
      · intro i x y H3 hx hy L3
        obtain ⟨m, hm, rfl⟩ := nints_get hx
        have hil := lt_of_get hm
        obtain ⟨r, hr2⟩ : ∃ r, rs[i]? = some r := ⟨_, List.getElem?_eq_getElem (by omega)⟩
        have hz : ((firsts b n).zip rs)[i]? = some (m, r) := (List.getElem?_zip_eq_some (z := (m, r))).mpr ⟨hm, hr2⟩
        refine ⟨rfl, ?_⟩
        have e : nints ((((firsts b n).zip rs).take (i + 1)).filterMap fun z => if rowV b n z.1 z.2 = true then none else some z.1) = nints ((((firsts b n).zip rs).take i).filterMap fun z => if rowV b n z.1 z.2 = true then none else some z.1) ++ if rowV b n m r = true then [] else [V.int (m : Nat)] := by
          rw [take_succ_get hz, List.filterMap_append, nints_append]
          congr 1
          cases hv : rowV b n m r with
          | true => simp [hv, nints]
          | false => simp [hv, nints]
        have hlen2 : (nints ((((firsts b n).zip rs).take i).filterMap fun z => if rowV b n z.1 z.2 = true then none else some z.1)).length < sizeLine := by
          rw [nints_len]
          have h1 := List.length_filterMap_le (fun z : Nat × Option (List V) => if rowV b n z.1 z.2 = true then none else some z.1) (((firsts b n).zip rs).take i)
          rw [List.length_take] at h1
          omega
        walk_at "w"
        refine ⟨n, b, m, y, r, rfl, hb, hb2, hn, by have := firsts_le (List.mem_of_getElem? hm); omega, L3.rw (hr i y r hy hr2), fun H4 M => ⟨_, rfl, ?_⟩⟩
        have L4 := L3.step0 M
        cases hv : rowV b n m r with
        | true =>
          rw [hv, if_pos rfl, List.append_nil] at e
          rw [if_neg (fun z => nomatch z)]
          exact lc_n L4 e
        | false =>
          rw [hv, if_neg Bool.false_ne_true] at e
          rw [if_pos rfl]
          exact lc_y L4 e hlen2
      · intro H3 L3
        rw [nints_len, c, Nat.min_self, List.take_of_length_le (by rw [List.length_zip]; omega)] at L3
        refine ⟨by decide, fun p4 hp4 => ?_⟩
        have L4 := L3.new (o := .lst []) hp4
        generalize upd _ _ _ = H4 at L4 ⊢
        refine ⟨_, L4.sqI 1 rfl, [], L4.sqI 0 rfl, ?_⟩
        have := q H4 L4.none
        rw [decide_eq_true c, Bool.true_and] at this
        have e : decide (List.map (fun (d : Nat) => (d : Int)) (((firsts b n).zip rs).filterMap fun z => if rowV b n z.1 z.2 = true then none else some z.1) = []) = ((firsts b n).zip rs).all fun z => rowV b n z.1 z.2 := by
          apply Bool.eq_iff_iff.mpr
          rw [decide_eq_true_eq, List.map_eq_nil_iff, List.filterMap_eq_nil_iff, List.all_eq_true]
          constructor
          · intro h z hz
            have := h z hz
            by_cases c : rowV b n z.1 z.2 = true
            · exact c
            · rw [if_neg c] at this
              cases this
          · intro h z hz
            rw [if_pos (h z hz)]
        rw [e]
        exact this
    · rw [if_pos (by omega)]
      have := q H2 L2.none
      rw [decide_eq_false c, Bool.false_and] at this
      exact this
  · refine isi_any (L1.tyy h1) h2 ⟨_, rfl, ?_⟩
    rw [if_pos rfl]
    exact q _ L1
theorem rd__law_unlike_d (h : sp__law_unlike_d K C vs H Q E) : t__law_unlike_d K C E (fin Q) (start ["number", "base", "some", "k"] vs) H := by
  obtain ⟨n, b, rfl, hb, hb2, hn, q⟩ := h
  show t__law_unlike_d K C E (fin Q) [some (.int n), some (.int b), none, none] H
  unfold t__law_unlike_d
  have hfl := figs_len_lim hb hn
  have hlb : ((figs b n).length : Int) = (ln b n : Nat) := rfl
  walk_at "w"
  refine use_figs_n (Led.refl H) hb hb2 hn fun p1 H1 L1 => ?_
  walk_at "w"
  refine ⟨_, .inl (L1.sqI 0 rfl), ?_⟩
  rw [nints_len, hlb]
  refine ⟨by omega, by omega, fun P hP => ?_⟩
  rw [Int.toNat_natCast]
  refine lc_fmr (lo := 0) L1 hP (fun k => decide ((figs b n).getD k 0 ≠ (figs b n).getD (ln b n - 1 - k) 0)) (fun k => .int (k : Nat)) (by rw [sizeLine_eq]; have : ln b n ≤ 700 := hfl; omega) (fun _ => rfl) ?_ ?_ ?_
  · intro x _ hx F' H' R L' h
    have hx : x < ln b n := by omega
    have hs : SqL K H' p1 (nints (figs b n)) := SqL.of (L'.own (p1, _) (List.mem_append.mpr (.inr List.mem_cons_self))).1
    walk_at "w"
    refine ⟨_, hs, _, atI_nat (figs_at hx), _, .inl hs, _, hs, ?_⟩
    rw [nints_len, hlb, show ((ln b n : Nat) : Int) - 1 - (x : Nat) = ((ln b n - 1 - x : Nat) : Int) by omega]
    refine ⟨_, atI_nat (figs_at (by omega)), rfl, ?_⟩
    have e : (!decide (V.int ((figs b n).getD x 0 : Nat) = V.int ((figs b n).getD (ln b n - 1 - x) 0 : Nat))) = decide ((figs b n).getD x 0 ≠ (figs b n).getD (ln b n - 1 - x) 0) := by
      apply Bool.eq_iff_iff.mpr
      rw [Bool.not_eq_true', decide_eq_false_iff_not, decide_eq_true_eq]
      exact not_congr ⟨fun z => by have := V.int.inj z; omega, fun z => by rw [z]⟩
    rw [e]
    exact h _ L'
  · intro x _ _ _ F' H' R L' h
    exact ⟨_, rfl, h _ L'⟩
  · intro H' L'
    have e : (((List.range' 0 (ln b n)).filter fun k => decide ((figs b n).getD k 0 ≠ (figs b n).getD (ln b n - 1 - k) 0)).map fun k => V.int (k : Nat)) = nints (unl b n) := by
      rw [← List.range_eq_range']
      show _ = ((unl b n).map fun (d : Nat) => (d : Int)).map V.int
      rw [List.map_map]
      rfl
    rw [e] at L'
    exact q P H' (L'.one 0 rfl)
theorem use_lunl {n b : Nat} (L : Led B F H) (hb : 2 ≤ b) (hb2 : b ≤ 36) (hn : n < lim) (q : ∀ p H', Led B ((p, .lst (nints (unl b n))) :: F) H' → Q (.ref p) H') : sp__law_unlike_d K C [.int n, .int b] H Q E :=
  ⟨n, b, rfl, hb, hb2, hn, fun p H' M => q p H' (L.step M)⟩
theorem use_mirto {n b : Nat} (L : Led B F H) (hb : 2 ≤ b) (hb2 : b ≤ 36) (hn : n ≤ 100000) (q : ∀ p H', Led B ((p, .lst (nints (0 :: mirs b (n + 1)))) :: F) H' → Q (.ref p) H') : sp__law_mirrored_to_d K C [.int n, .int b] H Q E :=
  ⟨n, b, rfl, hb, hb2, hn, fun p H' M => q p H' (L.step M)⟩
theorem rwF_snoc {b n : Nat} : ∀ {as ls : List Addr} {ms : List Nat} {a l : Addr} {m : Nat}, as.length = ms.length → ls.length = ms.length → rwF b n (as ++ [a]) (ls ++ [l]) (ms ++ [m]) = rwF b n as ls ms ++ [(a, .tup [.int (m : Nat), .ref l]), (l, .lst (nints (unl b (n - m))))]
  | [], [], [], _, _, _, _, _ => rfl
  | a :: as, l :: ls, m :: ms, _, _, _, h1, h2 => by
    show (a, HO.tup [.int (m : Nat), .ref l]) :: (l, .lst (nints (unl b (n - m)))) :: rwF b n (as ++ [_]) (ls ++ [_]) (ms ++ [_]) = _
    rw [rwF_snoc (Nat.succ.inj h1) (Nat.succ.inj h2)]
    rfl
  | [], _ :: _, _, _, _, _, h1, h2 => by
    simp at h1 h2
    omega
  | _ :: _, [], _, _, _, _, h1, h2 => by
    simp at h1 h2
    omega
  | [], [], _ :: _, _, _, _, h1, _ => by simp at h1
  | _ :: _, _ :: _, [], _, _, _, h1, _ => by simp at h1
theorem rd__law_rows_d (h : sp__law_rows_d K C vs H Q E) : t__law_rows_d K C E (fin Q) (start ["number", "base", "one"] vs) H := by
  obtain ⟨n, b, rfl, hb, hb2, hn, q⟩ := h
  show t__law_rows_d K C E (fin Q) [some (.int n), some (.int b), none] H
  unfold t__law_rows_d
  have hfl := firsts_len (b := b) (n := n)
  walk_at "w"
  rw [show (n : Int) / 2 = ((n / 2 : Nat) : Int) by omega]
  refine ⟨⟨by decide, by decide⟩, use_mirto (Led.refl H) hb hb2 (by omega) fun p1 H1 L1 => ⟨_, rfl, ⟨_, L1.sqI 0 rfl⟩, fun P hP => ?_⟩⟩
  refine lc_mk (l := firsts b n) L1 hP (fun F' H' L' => SqL.of (L'.own (p1, _) (List.mem_append.mpr (.inr List.mem_cons_self))).1)
    (fun i acc G => ∃ as ls : List Addr, as.length = i ∧ ls.length = i ∧ acc = as.map V.ref ∧ G.Perm (rwF b n as ls ((firsts b n).take i))) ⟨[], [], rfl, rfl, rfl, List.Perm.refl _⟩ (fun i acc G ⟨as, ls, h1, _, h2, _⟩ => by rw [h2, List.length_map, h1]; exact Nat.le_refl _) (by rw [sizeLine_eq]; omega) (fun _ => rfl) ?_ ?_
  · rintro i x acc G hx ⟨as, ls, h1, h2, rfl, hG⟩ F' H2 Rr L2 h
    have hx2 := firsts_le (List.mem_of_getElem? hx)
    have hil := lt_of_get hx
    walk_at "w"
    rw [show (n : Int) - x = ((n - x : Nat) : Int) by omega]
    refine use_lunl L2 hb hb2 (lim6 (by omega)) fun l H3 L3 => ⟨by decide, fun t ht => ?_⟩
    have L4 := L3.new (o := .tup [V.int (x : Nat), V.ref l]) ht
    refine h (.ref t) [(t, .tup [V.int (x : Nat), V.ref l]), (l, .lst (nints (unl b (n - x))))] _ ⟨as ++ [t], ls ++ [l], by rw [List.length_append, h1]; rfl, by rw [List.length_append, h2]; rfl, by rw [List.map_append]; rfl, ?_⟩ L4
    rw [take_succ_get hx, rwF_snoc (by rw [List.length_take]; omega) (by rw [List.length_take]; omega)]
    exact (List.perm_append_comm).trans (hG.append_right _)
  · rintro acc G H' ⟨as, ls, h1, h2, rfl, hG⟩ L'
    rw [List.take_of_length_le (Nat.le_refl _)] at hG
    refine q P as ls H' h1 h2 ?_
    have := L'.sub (List.Sublist.cons₂ _ (List.sublist_append_left G [(p1, HO.lst (nints (0 :: mirs b (n / 2 + 1))))]))
    exact this.perm (hG.cons _)
theorem use_lrows {n b : Nat} (L : Led B F H) (hb : 2 ≤ b) (hb2 : b ≤ 36) (hn : n ≤ 200000) (q : ∀ p as ls H', as.length = (firsts b n).length → ls.length = (firsts b n).length → Led B (((p, .lst (as.map V.ref)) :: rwF b n as ls (firsts b n)) ++ F) H' → Q (.ref p) H') : sp__law_rows_d K C [.int n, .int b] H Q E :=
  ⟨n, b, rfl, hb, hb2, hn, fun p as ls H' h1 h2 M => q p as ls H' h1 h2 (L.step M)⟩
theorem rwF_get {b n : Nat} : ∀ {as ls : List Addr} {ms : List Nat} {i m : Nat} {a l : Addr}, as[i]? = some a → ls[i]? = some l → ms[i]? = some m → (a, HO.tup [.int (m : Nat), .ref l]) ∈ rwF b n as ls ms ∧ (l, HO.lst (nints (unl b (n - m)))) ∈ rwF b n as ls ms
  | a :: as, l :: ls, m :: ms, 0, _, _, _, h1, h2, h3 => by
    cases h1; cases h2; cases h3
    exact ⟨List.mem_cons_self, List.mem_cons_of_mem _ List.mem_cons_self⟩
  | a :: as, l :: ls, m :: ms, i + 1, _, _, _, h1, h2, h3 => by
    obtain ⟨g1, g2⟩ := rwF_get (b := b) (n := n) (as := as) (ls := ls) (ms := ms) (i := i) h1 h2 h3
    exact ⟨List.mem_cons_of_mem _ (List.mem_cons_of_mem _ g1), List.mem_cons_of_mem _ (List.mem_cons_of_mem _ g2)⟩
  | [], _, _, _, _, _, _, h1, _, _ => by simp at h1
  | _ :: _, [], _, _, _, _, _, _, h2, _ => by simp at h2
  | _ :: _, _ :: _, [], _, _, _, _, _, _, h3 => by simp at h3
theorem rd__law_paper_d (h : sp__law_paper_d K C vs H Q E) : t__law_paper_d K C E (fin Q) (start ["rows", "one", "places"] vs) H := by
  obtain ⟨n, b, p, as, ls, rfl, hal, hll, hn, hx, q0, q1⟩ := h
  show t__law_paper_d K C E (fin Q) [some (.ref p), none, none] H
  unfold t__law_paper_d
  have hfl := firsts_len (b := b) (n := n)
  have hsl := sizeLine_eq
  have hp : H p = some (.lst (as.map V.ref)) := hx _ List.mem_cons_self
  have rowsS : ∀ (F : List (Addr × HO)) H', Led H F H' → SqL K H' p (as.map V.ref) ∧ ∀ (i : Nat) w x y, as[i]? = some w → (nints (firsts b n))[i]? = some x → (ls.map V.ref)[i]? = some y → SqT K H' w [x, y] := by
    intro F H' L'
    refine ⟨SqL.of (L'.base _ _ hp), fun i w x y h1 h2 h3 => ?_⟩
    obtain ⟨m, hm, rfl⟩ := nints_get h2
    rw [List.getElem?_map] at h3
    cases e : ls[i]? with
    | none => rw [e] at h3; cases h3
    | some l =>
      rw [e] at h3
      cases h3
      exact SqT.of (L'.base _ _ (hx _ (List.mem_cons_of_mem _ (rwF_get h1 e hm).1)))
  have place : ∀ (i m : Nat) (l : Addr), (firsts b n)[i]? = some m → ls[i]? = some l → H l = some (.lst (nints (unl b (n - m)))) := by
    intro i m l h1 h2
    obtain ⟨w, hw⟩ : ∃ w, as[i]? = some w := ⟨_, List.getElem?_eq_getElem (by have := lt_of_get h1; omega)⟩
    exact hx _ (List.mem_cons_of_mem _ (rwF_get hw h2 h1).2)
  have getl : ∀ {i : Nat} {y : V}, (ls.map V.ref)[i]? = some y → ∃ l, ls[i]? = some l ∧ y = .ref l := by
    intro i y h
    rw [List.getElem?_map] at h
    cases e : ls[i]? with
    | none => rw [e] at h; cases h
    | some l => rw [e] at h; cases h; exact ⟨l, rfl, rfl⟩
  walk_at "w"
  refine ⟨⟨_, SqL.of hp⟩, fun P hP => ?_⟩
  refine lc_mkp (as := as) (xs := nints (firsts b n)) (ys := ls.map V.ref) (Led.refl H) hP (by rw [nints_len, hal]) (by rw [List.length_map, hal, hll]) (fun F' H' L' => rowsS _ H' L')
    (fun i acc G => G = [] ∧ acc = nints (((firsts b n).take i).filter fun m => (unl b (n - m)).isEmpty)) ⟨rfl, rfl⟩ ?_ (by omega) (fun _ _ => rfl) (fun i => (unl b (n - (firsts b n).getD i 0)).isEmpty) ?_ ?_ ?_ ?_
  · rintro i acc G ⟨_, rfl⟩
    rw [nints_len]
    have h1 := List.length_filter_le (fun m => (unl b (n - m)).isEmpty) ((firsts b n).take i)
    rw [List.length_take] at h1
    omega
  · intro i x y h1 h2 F' H1 Rr L1 hR
    obtain ⟨m, hm, rfl⟩ := nints_get h1
    obtain ⟨l, hl, rfl⟩ := getl h2
    have hpl := place i m l hm hl
    have em : (firsts b n).getD i 0 = m := by
      rw [List.getD_eq_getElem?_getD, hm]
      rfl
    walk_at "w"
    refine ⟨by decide, fun p2 hp2 => ?_⟩
    have L2 := L1.new (o := .lst []) hp2
    refine ⟨_, SqL.of (L2.base _ _ hpl), [], SqL.of upd_same, ?_⟩
    have := hR [(p2, .lst [])] _ L2
    rw [em] at this
    have e : decide (List.map (fun (d : Nat) => (d : Int)) (unl b (n - m)) = []) = (unl b (n - m)).isEmpty := by
      cases unl b (n - m) <;> rfl
    rw [e]
    exact this
  · rintro i acc G ⟨rfl, rfl⟩ hp
    refine ⟨rfl, ?_⟩
    cases e : (firsts b n)[i]? with
    | none => rw [List.take_of_length_le (by rw [List.getElem?_eq_none_iff] at e; omega), List.take_of_length_le (by rw [List.getElem?_eq_none_iff] at e; omega)]
    | some m =>
      have em : (firsts b n).getD i 0 = m := by
        rw [List.getD_eq_getElem?_getD, e]
        rfl
      rw [em] at hp
      rw [take_succ_get e, List.filter_append, List.filter_cons, hp, if_neg Bool.false_ne_true, List.filter_nil, List.append_nil]
  · rintro i x y acc G h1 h2 hp ⟨rfl, rfl⟩ F' H1 Rr L1 hR
    obtain ⟨m, hm, rfl⟩ := nints_get h1
    have em : (firsts b n).getD i 0 = m := by
      rw [List.getD_eq_getElem?_getD, hm]
      rfl
    rw [em] at hp
    walk_at "w"
    refine hR _ [] _ ⟨rfl, ?_⟩ L1
    rw [take_succ_get hm, List.filter_append, nints_append, List.filter_cons, hp, if_pos rfl]
    rfl
  · rintro acc G H1 ⟨rfl, rfl⟩ L1
    rw [hal, List.take_of_length_le (Nat.le_refl _), List.nil_append] at L1
    refine ⟨by decide, fun p2 hp2 => ?_⟩
    have L2 := L1.new (o := .lst []) hp2
    generalize upd _ _ _ = H2 at L2 ⊢
    refine ⟨_, L2.sqI 1 rfl, [], L2.sqI 0 rfl, ?_⟩
    by_cases c : (firsts b n).filter (fun m => (unl b (n - m)).isEmpty) = []
    · rw [c, if_neg (fun z => z rfl)]
      have all : ∀ m ∈ firsts b n, unl b (n - m) ≠ [] := fun m hm z => by
        have := List.filter_eq_nil_iff.mp c m hm
        rw [z] at this
        exact this rfl
      have hpap := pap_of all
      refine ⟨⟨_, (rowsS _ _ L2).1⟩, fun P2 hP2 => ?_⟩
      refine lc_mkp (as := as) (xs := nints (firsts b n)) (ys := ls.map V.ref) L2 hP2 (by rw [nints_len, hal]) (by rw [List.length_map, hal, hll]) (fun F' H' L' => rowsS _ H' L')
        (fun i acc G => ∃ ts : List Addr, ts.length = min i (firsts b n).length ∧ acc = ts.map V.ref ∧ G.Perm (tupF ts (((firsts b n).take i).map fun m => (m, (unl b (n - m)).headD 0)))) ⟨[], by simp, rfl, List.Perm.refl _⟩ (fun i acc G ⟨ts, h1, h2, _⟩ => by rw [h2, List.length_map, h1]; exact Nat.min_le_left _ _) (by omega) (fun _ _ => rfl) (fun _ => true) (fun i x y _ _ F' H' Rr L' h => h [] _ L') (fun _ _ _ _ z => by cases z) ?_ ?_
      · rintro i x y acc G h1 h2 _ ⟨ts, hts, rfl, hG⟩ F' H3 Rr L3 hR
        obtain ⟨m, hm, rfl⟩ := nints_get h1
        obtain ⟨l, hl, rfl⟩ := getl h2
        have hil := lt_of_get hm
        have hpl := place i m l hm hl
        have hne := all m (List.mem_of_getElem? hm)
        obtain ⟨k, r, ek⟩ : ∃ k r, unl b (n - m) = k :: r := by
          cases e : unl b (n - m) with
          | nil => exact absurd e hne
          | cons k r => exact ⟨k, r, rfl⟩
        rw [ek] at hpl
        walk_at "w"
        refine ⟨_, SqL.of (L3.base _ _ hpl), _, atI_nat (j := 0) (v := V.int (k : Nat)) rfl, by decide, fun t ht => ?_⟩
        have L4 := L3.new (o := .tup [V.int (m : Nat), V.int (k : Nat)]) ht
        refine hR (.ref t) [(t, .tup [V.int (m : Nat), V.int (k : Nat)])] _ ⟨ts ++ [t], by rw [List.length_append, hts, List.length_singleton]; omega, by rw [List.map_append]; rfl, ?_⟩ L4
        rw [take_succ_get hm, List.map_append, List.map_singleton, ek, tupF_snoc (by rw [List.length_map, List.length_take]; exact hts)]
        exact (List.perm_append_comm).trans (hG.append_right _)
      · rintro acc G H3 ⟨ts, hts, rfl, hG⟩ L3
        rw [hal, List.take_of_length_le (Nat.le_refl _)] at hG
        rw [hal, Nat.min_self] at hts
        refine q1 _ hpap P2 ts H3 (by rw [List.length_map]; exact hts) ?_
        have := L3.sub (List.Sublist.cons₂ _ (List.sublist_append_left G _))
        exact this.perm (hG.cons _)
    · rw [if_pos (fun z => c (List.map_eq_nil_iff.mp z))]
      obtain ⟨m, hm⟩ := List.exists_mem_of_ne_nil _ c
      obtain ⟨hm1, hm2⟩ := List.mem_filter.mp hm
      exact q0 (pap_no hm1 (List.isEmpty_iff.mp hm2)) H2 L2.none
theorem use_lpaper {n b : Nat} {p : Addr} {as ls : List Addr} {G : List (Addr × HO)} (L : Led B (((p, .lst (as.map V.ref)) :: rwF b n as ls (firsts b n)) ++ G) H) (hal : as.length = (firsts b n).length) (hll : ls.length = (firsts b n).length) (hn : n ≤ 200000)
    (q0 : pap b n = none → ∀ H', Led B (((p, .lst (as.map V.ref)) :: rwF b n as ls (firsts b n)) ++ G) H' → Q .non H')
    (q1 : ∀ ps, pap b n = some ps → ∀ p2 as2 H', as2.length = ps.length → Led B (((p2, .lst (as2.map V.ref)) :: tupF as2 ps) ++ (((p, .lst (as.map V.ref)) :: rwF b n as ls (firsts b n)) ++ G)) H' → Q (.ref p2) H') : sp__law_paper_d K C [.ref p] H Q E :=
  ⟨n, b, p, as, ls, rfl, hal, hll, hn, fun x hx => (L.own x (List.mem_append.mpr (.inl hx))).1, fun e H' M => q0 e H' (L.step0 M), fun ps e p2 as2 H' h M => q1 ps e p2 as2 H' h (L.step M)⟩
theorem rd__law_hard_d (h : sp__law_hard_d K C vs H Q E) : t__law_hard_d K C E (fin Q) (start ["draws", "base", "most", "number", "more"] vs) H := by
  obtain ⟨a, ds, b, most, rfl, ha, hl, hb, hb2, hm0, hm, q⟩ := h
  show t__law_hard_d K C E (fin Q) [some (.ref a), some (.int b), some (.int most), none, none] H
  unfold t__law_hard_d
  have L := Led.own1 ha
  walk_at "w"
  refine use_number_d L 0 rfl hl hb hb2 (by omega) fun H1 ds1 g1 hl1 hg1 L1 => ?_
  walk_at "w"
  obtain ⟨g, hg, h0, h1⟩ : ∃ g : Nat, (if (g1 : Int) > 1 then (g1 : Int) else 1) = (g : Int) ∧ 1 ≤ g ∧ g ≤ most := by
    by_cases c : (g1 : Int) > 1
    · exact ⟨g1, by rw [if_pos c], by omega, hg1⟩
    · exact ⟨1, by rw [if_neg c]; rfl, by omega, hm0⟩
  rw [hg]
  refine cut_ (fun σ H' => ∃ (ds : List Nat) (y4 : Option V), ds.length ≤ 240 ∧ Led (rmv H a) [(a, .lst (nints ds))] H' ∧ σ = [some (.ref a), some (.int b), some (.int most), some (.int g), y4]) ?_ ?_
  · intro M hM
    walk_at "w"
    refine use_take (m := 3) L1 0 rfl (by decide) hl1 fun H2 ds2 g2 hl2 hg2 L2 => ⟨_, rfl, ?_⟩
    by_cases c : (0 : Int) < g2
    · rw [if_pos c]
      refine ⟨by decide, by decide, ?_⟩
      refine for_r (fun i σ H' => Led (rmv H a) [(a, .lst (nints ds2))] H' ∧ ∃ y4, σ = [some (.ref a), some (.int b), some (.int most), some (.int g), y4]) ⟨L2, _, rfl⟩ ?_ ?_
      · rintro N hN i σ H3 hi ⟨L3, y4, rfl⟩
        have hi : i < 30 := hi
        walk_at "w"
        rw [show (0 : Int) + i = (i : Nat) by omega, show (g : Int) + (i : Nat) = ((g + i : Nat) : Int) by omega]
        by_cases c2 : g + i ≤ most
        · rw [if_pos (by omega)]
          refine use_lrows L3 hb hb2 (by omega) fun p as ls H4 hal hll L4 => ?_
          refine use_lpaper L4 hal hll (by omega) (fun e H5 L5 => ?_) fun ps e p2 as2 H5 hal2 L5 => ?_
          · exact hN _ _ _ ⟨L5.sub (List.sublist_append_right _ _), _, rfl⟩
          · refine q _ ds2 (g + i) hl2 (by omega) c2 ?_
            exact (L5.sub (List.sublist_append_right _ _)).sub (List.sublist_append_right _ _)
        · rw [if_neg (by omega)]
          exact hN _ _ _ ⟨L3, _, rfl⟩
      · rintro σ H3 ⟨L3, y4, rfl⟩
        exact hM _ _ ⟨ds2, _, hl2, L3, rfl⟩
    · rw [if_neg c]
      exact hM _ _ ⟨ds2, _, hl2, L2, rfl⟩
  · rintro σ H2 ⟨ds2, y4, hl2, L2, rfl⟩
    walk_at "w"
    exact q _ ds2 g hl2 h0 h1 L2
theorem use_lhard {b most : Nat} (L : Led B F H) (i : Nat) (hF : F[i]? = some (a, .lst (nints ds))) (hl : ds.length ≤ 240) (hb : 2 ≤ b) (hb2 : b ≤ 36) (hm0 : 1 ≤ most) (hm : most ≤ 100000)
    (q : ∀ H' (ds' : List Nat) (g : Nat), ds'.length ≤ 240 → 1 ≤ g → g ≤ most → Led B (F.set i (a, .lst (nints ds'))) H' → Q (.int g) H') : sp__law_hard_d K C [.ref a, .int b, .int most] H Q E :=
  ⟨a, ds, b, most, rfl, L.get i hF, hl, hb, hb2, hm0, hm, fun H' ds' g hl' h1 hg M => q H' ds' g hl' h1 hg (L.stepOwn (G := []) i hF M)⟩
/-- a right paper is judged right -/
theorem use_ispap {n b : Nat} {p : Addr} {as : List Addr} {ps : List (Nat × Nat)} {G : List (Addr × HO)} (L : Led B (((p, .lst (as.map V.ref)) :: tupF as ps) ++ G) H) (hb : 2 ≤ b) (hb2 : b ≤ 36) (hn : n ≤ 1000000) (hal : as.length = ps.length) (hps : ps.map Prod.fst = firsts b n) (hpu : ∀ x ∈ ps, x.2 ∈ unl b (n - x.1))
    (q : ∀ H', Led B (((p, .lst (as.map V.ref)) :: tupF as ps) ++ G) H' → Q (.bl true) H') : sp_is_paper K C [.int n, .int b, .ref p] H Q E := by
  have own := fun x hx => (L.own x (List.mem_append.mpr (.inl hx))).1
  refine ⟨n, b, .ref p, rfl, hb, hb2, hn, .inl ⟨p, as.map V.ref, ps.map fun x => some [.int (x.1 : Nat), .int (x.2 : Nat)], rfl, own _ List.mem_cons_self, by rw [List.length_map, List.length_map, hal], ?_, fun H' M => ?_⟩⟩
  · intro i x r hx hr
    rw [List.getElem?_map] at hx hr
    cases ea : as[i]? with
    | none => rw [ea] at hx; cases hx
    | some w =>
      cases ep : ps[i]? with
      | none => rw [ep] at hr; cases hr
      | some y =>
        rw [ea] at hx
        rw [ep] at hr
        cases hx
        cases hr
        refine ⟨w, rfl, SqT.of (own (w, _) (List.mem_cons_of_mem _ ?_)), (by decide : 2 ≤ 1000), fun z hz => ?_⟩
        · unfold tupF
          refine List.mem_of_getElem? (i := i) ((List.getElem?_zip_eq_some (z := (w, _))).mpr ⟨ea, ?_⟩)
          rw [List.getElem?_map, ep]
          rfl
        · simp only [List.mem_cons, List.not_mem_nil, or_false] at hz
          rcases hz with rfl | rfl <;> trivial
  · have hl : ps.length = (firsts b n).length := by rw [← hps, List.length_map]
    have e : (decide ((as.map V.ref).length = (firsts b n).length) && ((firsts b n).zip (ps.map fun x => some [V.int (x.1 : Nat), V.int (x.2 : Nat)])).all fun z => rowV b n z.1 z.2) = true := by
      rw [Bool.and_eq_true, decide_eq_true_eq, List.length_map, hal]
      refine ⟨hl, List.all_eq_true.mpr fun z hz => ?_⟩
      obtain ⟨i, hi⟩ := List.mem_iff_getElem?.mp hz
      obtain ⟨h1, h2⟩ := List.getElem?_zip_eq_some.mp hi
      rw [← hps, List.getElem?_map] at h1
      rw [List.getElem?_map] at h2
      cases ep : ps[i]? with
      | none => rw [ep] at h1; cases h1
      | some y =>
        rw [ep] at h1 h2
        obtain ⟨z1, z2⟩ := z
        cases h1
        cases h2
        exact rowB_iff.mpr ⟨rfl, y.2, rfl, hpu y (List.mem_of_getElem? ep)⟩
    rw [e]
    exact q H' (L.step0 M)
theorem pap_fst {b n : Nat} {ps : List (Nat × Nat)} (h : pap b n = some ps) : ps.map Prod.fst = firsts b n := by
  rw [(pap_some h).2, List.map_map]
  exact List.map_id' _
theorem pap_unl {b n : Nat} {ps : List (Nat × Nat)} (h : pap b n = some ps) : ∀ x ∈ ps, x.2 ∈ unl b (n - x.1) := by
  intro x hx
  obtain ⟨h1, h2⟩ := pap_some h
  rw [h2] at hx
  obtain ⟨m, hm, rfl⟩ := List.mem_map.mp hx
  have := h1 m hm
  cases e : unl b (n - m) with
  | nil => exact absurd e this
  | cons k r =>
    exact List.mem_cons_self
theorem dp_tups : ∀ (as : List Addr) (ps : List (Nat × Nat)), as.length = ps.length → (∀ x ∈ tupF as ps, H x.1 = some x.2) → DpAll K H (as.map V.ref) (ps.map fun x => PyData.tuple [.int (x.1 : Nat), .int (x.2 : Nat)])
  | [], [], _, _ => .nil
  | [], _ :: _, h, _ => by cases h
  | _ :: _, [], h, _ => by cases h
  | a :: as, m :: ms, h, hx => by
    refine .cons (.tup (SqT.of (hx (a, _) (by unfold tupF; rw [List.map_cons, List.zip_cons_cons]; exact List.mem_cons_self))) (.cons (.int _) (.cons (.int _) .nil))) (dp_tups as ms (Nat.succ.inj h) fun x hm => hx x ?_)
    unfold tupF at hm ⊢
    rw [List.map_cons, List.zip_cons_cons]
    exact List.mem_cons_of_mem _ hm
theorem shaped_tups (ps : List (Nat × Nat)) : SeqAt.shaped (.list (ps.map fun x => PyData.tuple [.int (x.1 : Nat), .int (x.2 : Nat)])) = true := by
  have h : ∀ ps : List (Nat × Nat), PyData.canLayAll0 (ps.map fun x => PyData.tuple [.int (x.1 : Nat), .int (x.2 : Nat)]) = true ∧ PyData.depthAll (ps.map fun x => PyData.tuple [.int (x.1 : Nat), .int (x.2 : Nat)]) ≤ 1 := by
    intro ps
    induction ps with
    | nil => exact ⟨rfl, Nat.zero_le _⟩
    | cons m ms ih =>
      refine ⟨?_, ?_⟩
      · show (PyData.canLay0 (PyData.tuple [.int (m.1 : Nat), .int (m.2 : Nat)]) && _) = true
        rw [ih.1]
        rfl
      · show max 1 _ ≤ 1
        exact Nat.max_le.mpr ⟨Nat.le_refl _, ih.2⟩
  show (PyData.canLayAll0 _ && decide (PyData.depthAll _ + 1 ≤ 64)) = true
  rw [(h ps).1, decide_eq_true (by have := (h ps).2; omega)]
  rfl
end
end Mi

/-! things that may be papers -/
namespace Mi
open PySem PySem.Spec PyProof.Rows L2
section
variable {K : PySem.W.Frag} {B H : Hp} {F : List (Addr × HO)}
mutual
theorem Led.dq (L : Led B F H) : ∀ {v : V} {d : PyData}, Dq K B v d → Dq K H v d
  | _, _, .non => .non
  | _, _, .bl b => .bl b
  | _, _, .int i => .int i
  | _, _, .str x => .str x
  | _, _, .lst h a => .lst (L.sq h) (L.dqAll a)
  | _, _, .tup h a => .tup (L.st h) (L.dqAll a)
  | _, _, .dic h a => .dic (L.base _ _ h) (L.dqAll a)
theorem Led.dqAll (L : Led B F H) : ∀ {vs : List V} {ds : List PyData}, DqAll K B vs ds → DqAll K H vs ds
  | _, _, .nil => .nil
  | _, _, .cons h a => .cons (L.dq h) (L.dqAll a)
end
/-- a thing that may be a row of a paper: what is_row makes of it, and its text -/
def Rt (K : PySem.W.Frag) (H : Hp) (y : V) : Prop := ∃ (r : Option (List V)) (d : PyData), Rw K H y r ∧ Dq K H y d ∧ d.showable = true ∧ d.depth ≤ 2 ∧ d.shown.length ≤ 300
theorem Led.rt {y : V} (L : Led B F H) : Rt K B y → Rt K H y
  | ⟨r, d, h1, h2, h3⟩ => ⟨r, d, L.rw h1, L.dq h2, h3⟩
theorem rt_all : ∀ {xs : List V}, (∀ y ∈ xs, Rt K H y) → ∃ (rs : List (Option (List V))) (ds : List PyData), xs.length = rs.length ∧ (∀ (i : Nat) x r, xs[i]? = some x → rs[i]? = some r → Rw K H x r) ∧ DqAll K H xs ds ∧ PyData.showableAll ds = true ∧ PyData.depthAll ds ≤ 2 ∧
    ((PyData.shownAll ds).map (·.length)).sum ≤ 300 * xs.length ∧ (PyData.shownAll ds).length = xs.length
  | [], _ => ⟨[], [], rfl, fun i x r h => (by simp at h), .nil, rfl, Nat.zero_le _, Nat.le_refl _, rfl⟩
  | y :: xs, h => by
    obtain ⟨r, d, h1, h2, h3, h4, h5⟩ := h y List.mem_cons_self
    obtain ⟨rs, ds, g1, g2, g3, g4, g5, g6, g7⟩ := rt_all (xs := xs) fun z hz => h z (List.mem_cons_of_mem _ hz)
    refine ⟨r :: rs, d :: ds, congrArg (· + 1) g1, fun i x q a b => ?_, .cons h2 g3, ?_, ?_, ?_, ?_⟩
    · cases i with
      | zero => cases a; cases b; exact h1
      | succ i => exact g2 i x q a b
    · show (PyData.showable d && PyData.showableAll ds) = true
      rw [h3, g4]
      rfl
    · show max (PyData.depth d) (PyData.depthAll ds) ≤ 2
      exact Nat.max_le.mpr ⟨h4, g5⟩
    · show (PyData.shown d).length + ((PyData.shownAll ds).map (·.length)).sum ≤ 300 * (xs.length + 1)
      omega
    · show (PyData.shownAll ds).length + 1 = xs.length + 1
      rw [g7]
/-- the text of a list of such things -/
theorem rt_list {q : Addr} {xs : List V} (hS : SqL K H q xs) (h : ∀ y ∈ xs, Rt K H y) (hl : xs.length ≤ 50100) : ∃ (rs : List (Option (List V))) (d : PyData), xs.length = rs.length ∧ (∀ (i : Nat) x r, xs[i]? = some x → rs[i]? = some r → Rw K H x r) ∧
    Dq K H (.ref q) d ∧ d.showable = true ∧ d.depth ≤ 64 ∧ d.shown.length ≤ sizeLine := by
  obtain ⟨rs, ds, g1, g2, g3, g4, g5, g6, g7⟩ := rt_all h
  refine ⟨rs, .list ds, g1, g2, .lst hS g3, g4, ?_, ?_⟩
  · show PyData.depthAll ds + 1 ≤ 64
    omega
  · have := listText_len_le (PyData.shownAll ds)
    rw [g7] at this
    show (listText (PyData.shownAll ds)).length ≤ sizeLine
    rw [sizeLine_eq]
    omega
end
section
open TL
theorem nat_show {k d : Nat} (hk : 1 ≤ k) (h : d < 10 ^ k) : (PyData.shown (.int (d : Nat))).length ≤ k := by
  unfold PyData.shown
  rw [len_tl, tl_num]
  exact numL_len hk h
theorem int_show {k : Nat} {i : Int} (hk : 1 ≤ k) (h : i.natAbs < 10 ^ k) : (PyData.shown (.int i)).length ≤ k + 1 := by
  cases i with
  | ofNat d => exact Nat.le_succ_of_le (nat_show hk h)
  | negSucc m =>
    have h2 : m + 1 < 10 ^ k := h
    have e := PyProof.Rows.len_text_neg (n := Int.negSucc m) (by omega)
    rw [show (0 : Int) - Int.negSucc m = ((m + 1 : Nat) : Int) by omega] at e
    have e : (PyData.shown (.int (Int.negSucc m))).length = 1 + (PyData.shown (.int ((m + 1 : Nat) : Int))).length := e
    have := nat_show hk h2
    omega
end
end Mi

/-! things that are never changed: they go to the base -/
namespace Mi
open PySem PySem.Spec PyProof.Rows L2
def rTupOf (K : PySem.W.Frag) : List V → Hp → VK → Prop := fun xs H Q => ∃ (p : Addr) (ys : List V), xs = [.ref p] ∧ ((SqL K H p ys ∧ ∀ l, H l = none → Q (.ref l) (upd H l (.tup ys))) ∨ (SqT K H p ys ∧ Q (.ref p) H))
def AllIn (F : List (Addr × HO)) (B : Hp) : Prop := ∀ x ∈ F, B x.1 = some x.2
section
variable {B H H' : Hp} {F G : List (Addr × HO)} {K : PySem.W.Frag}
theorem Led.allIn (L : Led B F H) : AllIn F H := fun x hx => (L.own x hx).1
theorem AllIn.mono (h : AllIn F B) (s : Same B H) : AllIn F H := fun x hx => s _ _ (h x hx)
theorem AllIn.sub (h : AllIn F B) (s : ∀ x ∈ G, x ∈ F) : AllIn G B := fun x hx => h x (s x hx)
theorem AllIn.at {p : Addr} {o : HO} (h : AllIn F B) (i : Nat) (e : F[i]? = some (p, o)) : B p = some o := h _ (List.mem_of_getElem? e)
/-- from now on the objects of G stand still -/
theorem Led.lay (L : Led B (G ++ F) H) : ∃ B2, Same B B2 ∧ AllIn G B2 ∧ Led B2 F H := by
  classical
  have nd := L.nd
  rw [List.map_append, List.nodup_append] at nd
  refine ⟨fun b => if b ∈ G.map Prod.fst then H b else B b, fun b o e => ?_, fun x hx => ?_, fun b o e => ?_, fun x hx => ?_, nd.2.1⟩
  · show (if _ then _ else _) = _
    split
    · exact L.base b o e
    · exact e
  · show (if _ then _ else _) = _
    rw [if_pos (List.mem_map.mpr ⟨x, hx, rfl⟩)]
    exact (L.own x (List.mem_append.mpr (.inl hx))).1
  · have e : (if b ∈ G.map Prod.fst then H b else B b) = some o := e
    split at e
    · exact e
    · exact L.base b o e
  · obtain ⟨h1, h2⟩ := L.own x (List.mem_append.mpr (.inr hx))
    refine ⟨h1, ?_⟩
    show (if _ then _ else _) = _
    rw [if_neg fun m => nd.2.2 _ m _ (List.mem_map.mpr ⟨x, hx, rfl⟩) rfl]
    exact h2
theorem Led.new' {p : Addr} {o : HO} (L : Led B F H) (h : H p = Option.none) (e : upd H p o = H') : Led B ((p, o) :: F) H' := e ▸ L.new h
theorem Led.put' {p : Addr} {o o' : HO} (L : Led B F H) (i : Nat) (h : F[i]? = some (p, o)) (e : upd H p o' = H') : Led B (F.set i (p, o')) H' := e ▸ L.put i h
theorem Led.layAll (L : Led B F H) : Same B H := L.base
end
section
variable {K : PySem.W.Frag} {B H : Hp}
/-- data that may be shown -/
def Shw (d : PyData) : Prop := d.showable = true ∧ d.leavesShort 800 = true
def ShwAll (ds : List PyData) : Prop := PyData.showableAll ds = true ∧ PyData.leavesShortAll 800 ds = true
theorem ShwAll.nil : ShwAll [] := ⟨rfl, rfl⟩
theorem ShwAll.cons {d : PyData} {ds : List PyData} (h : Shw d) (hs : ShwAll ds) : ShwAll (d :: ds) := by
  refine ⟨?_, ?_⟩
  · show (PyData.showable d && PyData.showableAll ds) = true
    rw [h.1, hs.1]
    rfl
  · show (PyData.leavesShort 800 d && PyData.leavesShortAll 800 ds) = true
    rw [h.2, hs.2]
    rfl
theorem Shw.lst {ds : List PyData} (h : ShwAll ds) : Shw (.list ds) := h
theorem Shw.tup {ds : List PyData} (h : ShwAll ds) : Shw (.tuple ds) := h
theorem Shw.int {i : Int} (h : i.natAbs < 10 ^ 190) : Shw (.int i) := by
  have hl : i.natAbs.log2 < 700 := by
    by_cases c : i.natAbs = 0
    · rw [c]
      decide
    · refine (Nat.log2_lt c).mpr (Nat.lt_trans h (by decide +kernel))
  refine ⟨?_, ?_⟩
  · show decide (i.natAbs.log2 < 1920) = true
    exact decide_eq_true (by omega)
  · show decide ((PyData.shown (.int i)).length ≤ 800) = true
    refine decide_eq_true ?_
    exact Nat.le_trans (int_show (k := 190) (by decide) h) (by decide)
theorem Shw.dic1 {i : Int} {d : PyData} (hi : i.natAbs < 10 ^ 190) (h : Shw d) : Shw (.dict [(.int i, d)]) := by
  obtain ⟨k1, k2⟩ := Shw.int hi
  refine ⟨?_, ?_⟩
  · show (PyData.showable (.int i) && PyData.showable d && true) = true
    rw [k1, h.1]
    rfl
  · show (PyData.leavesShort 800 (.int i) && PyData.leavesShort 800 d && true) = true
    rw [k2, h.2]
    rfl
theorem Shw.len {d : PyData} {k : Nat} (h : Shw d) (hb : d.bulk ≤ k) (hk : k ≤ 20000) : d.shown.length ≤ sizeLine := by
  have := PyData.shown_le_bulk 800 (by decide) d h.2
  rw [sizeLine_eq]
  omega
theorem kn_lst {a : Addr} {xs : List V} (h : H a = some (.lst xs)) : Kn K H (.ref a) := ⟨_, .inl (.base (.lst h)), kit_ty (by decide +kernel), kit_ty (by decide +kernel)⟩
theorem kn_tup {a : Addr} {xs : List V} (h : H a = some (.tup xs)) : Kn K H (.ref a) := ⟨_, .inl (.base (.tup h)), kit_ty (by decide +kernel), kit_ty (by decide +kernel)⟩
theorem kn_dK {a : Addr} {xs : List (Key × V)} (h : H a = some (.dK xs)) : Kn K H (.ref a) := ⟨_, .inl (.base (.dK h)), kit_ty (by decide +kernel), kit_ty (by decide +kernel)⟩
theorem kn_exV {a : Addr} (h : H a = some (ExV a)) : Kn K H (.ref a) := ⟨_, .inr ⟨a, rfl, rfl, h⟩, kit_ty (by decide +kernel), kit_ty (by decide +kernel)⟩
theorem all_cons {P : V → Prop} {x : V} {l : List V} (h : P x) (hl : ∀ y ∈ l, P y) : ∀ y ∈ x :: l, P y := fun y hy => by
  rcases List.mem_cons.mp hy with e | e
  · rw [e]
    exact h
  · exact hl y e
theorem all_nil {P : V → Prop} : ∀ y ∈ ([] : List V), P y := fun _ h => nomatch h
theorem all_app {P : V → Prop} {l m : List V} (hl : ∀ y ∈ l, P y) (hm : ∀ y ∈ m, P y) : ∀ y ∈ l ++ m, P y := fun y hy => by
  rcases List.mem_append.mp hy with e | e
  · exact hl y e
  · exact hm y e
/-- things that are small data -/
def Sm (K : PySem.W.Frag) (B : Hp) (x : V) (k n : Nat) : Prop := ∃ d, Dq K B x d ∧ Shw d ∧ d.depth ≤ k ∧ d.bulk ≤ n
def SmA (K : PySem.W.Frag) (B : Hp) (xs : List V) (k n : Nat) : Prop := ∃ ds, DqAll K B xs ds ∧ ShwAll ds ∧ PyData.depthAll ds ≤ k ∧ PyData.bulkAll ds ≤ n
theorem Sm.mono {x : V} {k n k' n' : Nat} (h : Sm K B x k n) (h1 : k ≤ k') (h2 : n ≤ n') : Sm K B x k' n' := by
  obtain ⟨d, a, b, c, e⟩ := h
  exact ⟨d, a, b, Nat.le_trans c h1, Nat.le_trans e h2⟩
theorem SmA.mono {x : List V} {k n k' n' : Nat} (h : SmA K B x k n) (h1 : k ≤ k') (h2 : n ≤ n') : SmA K B x k' n' := by
  obtain ⟨d, a, b, c, e⟩ := h
  exact ⟨d, a, b, Nat.le_trans c h1, Nat.le_trans e h2⟩
theorem Sm.int {i : Int} {k n : Nat} (h : i.natAbs < 10 ^ 190) : Sm K B (.int i) k n := ⟨.int i, .int i, .int h, Nat.zero_le _, Nat.zero_le _⟩
theorem Sm.bl {i : Bool} {k n : Nat} : Sm K B (.bl i) k n := ⟨.bool i, .bl i, ⟨rfl, rfl⟩, Nat.zero_le _, Nat.zero_le _⟩
theorem Sm.non {k n : Nat} : Sm K B .non k n := ⟨.none, .non, ⟨rfl, rfl⟩, Nat.zero_le _, Nat.zero_le _⟩
theorem Sm.str {x : Str} {k n : Nat} (h : Shw (.str x)) (h2 : (PyData.str x).bulk ≤ n) : Sm K B (.str x) k n := ⟨.str x, .str x, h, Nat.zero_le _, h2⟩
theorem SmA.nil {k n : Nat} : SmA K B [] k n := ⟨[], .nil, .nil, Nat.zero_le _, Nat.zero_le _⟩
theorem SmA.cons {x : V} {xs : List V} {k n m : Nat} (h : Sm K B x k n) (hs : SmA K B xs k m) : SmA K B (x :: xs) k (n + 1 + m) := by
  obtain ⟨d, h1, h2, h3, h4⟩ := h
  obtain ⟨ds, g1, g2, g3, g4⟩ := hs
  refine ⟨d :: ds, .cons h1 g1, .cons h2 g2, ?_, ?_⟩
  · show max _ _ ≤ k
    exact Nat.max_le.mpr ⟨h3, g3⟩
  · show d.bulk + 1 + PyData.bulkAll ds ≤ _
    omega
theorem SmA.app {xs ys : List V} {k n m : Nat} (h : SmA K B xs k n) (hs : SmA K B ys k m) : SmA K B (xs ++ ys) k (n + m) := by
  obtain ⟨ds, h1, h2, h3, h4⟩ := h
  induction xs generalizing ds n with
  | nil =>
    cases h1
    rw [List.nil_append]
    obtain ⟨d2, g1, g2, g3, g4⟩ := hs
    exact ⟨d2, g1, g2, g3, by omega⟩
  | cons x xs ih =>
    cases h1 with
    | cons a b =>
      rename_i d ds
      obtain ⟨h2a, h2b⟩ := h2
      have e1 : PyData.showable d = true ∧ PyData.showableAll ds = true := by
        have : (PyData.showable d && PyData.showableAll ds) = true := h2a
        rwa [Bool.and_eq_true] at this
      have e2 : PyData.leavesShort 800 d = true ∧ PyData.leavesShortAll 800 ds = true := by
        have : (PyData.leavesShort 800 d && PyData.leavesShortAll 800 ds) = true := h2b
        rwa [Bool.and_eq_true] at this
      have e3 : max d.depth (PyData.depthAll ds) ≤ k := h3
      have e4 : d.bulk + 1 + PyData.bulkAll ds ≤ n := h4
      rw [Nat.max_le] at e3
      have := ih (n := PyData.bulkAll ds) ds b ⟨e1.2, e2.2⟩ e3.2 (Nat.le_refl _)
      obtain ⟨d2, g1, g2, g3, g4⟩ := SmA.cons (k := k) (n := d.bulk) ⟨d, a, ⟨e1.1, e2.1⟩, e3.1, Nat.le_refl _⟩ this
      exact ⟨d2, g1, g2, g3, by omega⟩
theorem SmA.all {xs : List V} {k n : Nat} (h : ∀ x ∈ xs, Sm K B x k n) : SmA K B xs k (xs.length * (n + 1)) := by
  induction xs with
  | nil => exact .nil
  | cons x xs ih =>
    refine (SmA.cons (h x List.mem_cons_self) (ih fun y hy => h y (List.mem_cons_of_mem _ hy))).mono (Nat.le_refl _) ?_
    rw [List.length_cons, Nat.succ_mul]
    omega
theorem Sm.lst {a : Addr} {xs : List V} {k n : Nat} (h : B a = some (.lst xs)) (hs : SmA K B xs k n) : Sm K B (.ref a) (k + 1) n := by
  obtain ⟨ds, g1, g2, g3, g4⟩ := hs
  exact ⟨.list ds, .lst (.of h) g1, .lst g2, Nat.succ_le_succ g3, g4⟩
theorem Sm.tup {a : Addr} {xs : List V} {k n : Nat} (h : B a = some (.tup xs)) (hs : SmA K B xs k n) : Sm K B (.ref a) (k + 1) n := by
  obtain ⟨ds, g1, g2, g3, g4⟩ := hs
  exact ⟨.tuple ds, .tup (.of h) g1, .tup g2, Nat.succ_le_succ g3, g4⟩
theorem Sm.nats {l : List Nat} {k : Nat} (h : ∀ d ∈ l, d < 10 ^ 190) : SmA K B (nints l) k l.length := by
  induction l with
  | nil => exact .nil
  | cons d l ih =>
    refine (SmA.cons (n := 0) (.int (show ((d : Nat) : Int).natAbs < 10 ^ 190 by have := h d List.mem_cons_self; omega)) (ih fun y hy => h y (List.mem_cons_of_mem _ hy))).mono (Nat.le_refl _) ?_
    rw [List.length_cons]
    omega
theorem Sm.dic0 {a : Addr} {k n : Nat} (h : B a = some (.dK [])) : Sm K B (.ref a) (k + 1) n := ⟨.dict [], .dic h .nil, ⟨rfl, rfl⟩, Nat.le_of_ble_eq_true (by rfl), Nat.zero_le _⟩
theorem Sm.dic1 {a : Addr} {i j : Int} {k n : Nat} (h : B a = some (.dK [(.inl i, .int j)])) (hi : i.natAbs < 10 ^ 190) (hj : j.natAbs < 10 ^ 190) : Sm K B (.ref a) (k + 1) (n + 2) :=
  ⟨.dict [(.int i, .int j)], .dic h (.cons (.int j) .nil), .dic1 hi (.int hj), Nat.le_of_ble_eq_true (by rfl), by show 0 + 0 + 2 + 0 ≤ n + 2; omega⟩
theorem Sm.lift {x : V} {k n : Nat} (h : Sm K B x k n) (s : ∀ b o, B b = some o → H b = some o) : Sm K H x k n := by
  obtain ⟨d, a, b⟩ := h
  exact ⟨d, Led.dq (F := []) ⟨s, fun _ h => (nomatch h), List.nodup_nil⟩ a, b⟩
/-- what is no base, and known -/
def NoB (K : PySem.W.Frag) (B : Hp) (x : V) : Prop := Kn K B x ∧ isBase x = false
theorem NoB.mono {x : V} (h : NoB K B x) (s : Same B H) : NoB K H x := ⟨h.1.mono (F := []) ⟨s, fun _ h => (nomatch h), List.nodup_nil⟩, h.2⟩
theorem NoB.ref {a : Addr} (h : Kn K B (.ref a)) : NoB K B (.ref a) := ⟨h, rfl⟩
/-- the list p of things that are no base -/
structure BadL (K : PySem.W.Frag) (B : Hp) (p : Addr) (xs : List V) (d : PyData) : Prop where
  sq : B p = some (.lst xs)
  len : xs.length ≤ 60
  no : ∀ x ∈ xs, NoB K B x
  dq : Dq K B (.ref p) d
  shw : Shw d
  dep : d.depth ≤ 8
  blk : d.bulk ≤ 1000
theorem Same.led (s : Same B H) : Led B [] H := ⟨s, fun _ h => (nomatch h), List.nodup_nil⟩
theorem BadL.repr {p : Addr} {xs : List V} {d : PyData} {Q : VK} (h : BadL K B p xs d) (s : Same B H) (q : Q (.str d.shown) H) : rReprQ K [.ref p] H Q :=
  ⟨_, d, rfl, (Same.led s).dq h.dq, h.shw.1, Nat.le_trans h.dep (by decide), h.shw.len h.blk (by decide), q⟩
theorem isX_ {a D : Addr} {u : Value} {c : V} {b : Bool} {Q : VK} (ha : H a = some (ExK (.ref D) a)) (hx : ExcC K D) (hk : PySem.W.kitOne K (.ref D) u = some b) (hc : ClsV c u) (q : Q (.bl b) H) : rIsX K [.ref a, c] H Q :=
  ⟨_, _, _, _, b, rfl, hc, .inr ⟨a, D, rfl, rfl, ha, hx⟩, hk, q⟩
def kindsL : List Str := ["NoBase", "NoNumber", "NoMirror", "NoPlace", "NoWay", "NoText", "NoCommand"]
theorem kindsL_nd : kindsL.Nodup := by decide
theorem kindsL_in : ∀ d ∈ kindsL, d ∈ kinds := by decide
theorem xf_at {C : Str → Addr} {c d : Str} {i j : Nat} (h : ExF K C c) (hi : kindsL[i]? = some c) (hj : kindsL[j]? = some d) : PySem.W.kitOne K (.ref (C c)) (.ref (C d)) = some (decide (j = i)) := by
  by_cases e : j = i
  · subst e
    rw [hi] at hj
    cases hj
    rw [ExF.own, decide_eq_true rfl]
  · rw [decide_eq_false e]
    refine h.no d (kindsL_in d (List.mem_of_getElem? hj)) fun z => e ?_
    subst z
    have hl : j < kindsL.length := (List.getElem?_eq_some_iff.mp hj).1
    exact (List.getElem?_inj hl kindsL_nd).mp (hj.trans hi.symm)
def sp__law_just (K : PySem.W.Frag) (C : Str → Addr) : Sp := fun vs H Q E => ∃ (a : Addr) (c : Str) (i : Nat), vs = [.ref a, .int i] ∧ kindsL[i]? = some c ∧ ExF K C c ∧ H a = some (ExK (.ref (C c)) a) ∧ ∀ H', Led H [] H' → Q (.bl true) H'
def sp__law_no_bases (K : PySem.W.Frag) (C : Str → Addr) : Sp := fun vs H Q E => ∃ (a : Addr) (d m : Nat), vs = [.ref a] ∧ H a = some (.lst [.int d, .int m]) ∧ m < 2147483587 ∧
  ∀ p xs dt F H' (d' m' : Nat), m' < 2147483587 → Led (rmv H a) (F ++ [(a, .lst [.int d', .int m'])]) H' → (∀ B', AllIn F B' → BadL K B' p xs dt) → Q (.ref p) H'
end
end Mi

namespace Mi
open PySem PySem.Spec PyProof.Rows L2
def t__law_no_bases (K : PySem.W.Frag) (C : Str → Addr) (E : XK) : TS :=
  (tSeq (tAsg (tOp (rI0 fun i j => .int (i + j)) (tC (.int 37)) (tGo (sp__law_draw K C) (fun _ => E0) (tCons (tVar 0) (tCons (tOp (rI CPow fun i j => .int (i ^ j.toNat)) (tC (.int 10)) (tC (.int 9))) tNil)))) (gName 1))
    (tSeq (tAsg (tLst (tCons (tC (.int 1)) (tCons (tC (.int 0)) (tCons (tUn (rU fun i => .int (-i)) (tC (.int 1))) (tCons (tC (.int 37)) (tCons (tVar 1) (tCons (tOp (rI0 fun i j => .int (i - j)) (tC (.int 0)) (tVar 1)) (tCons (tUn (rU fun i => .int (-i)) (tC (.int 2))) (tCons (tUn (rU fun i => .int (-i)) (tC (.int 10))) (tCons (tOp (rI CPow fun i j => .int (i ^ j.toNat)) (tC (.int 10)) (tC (.int 40))) (tCons (tC (.bl true)) (tCons (tC (.bl false)) (tCons (tC .non) (tCons (tC (.str "10")) (tCons (tC (.str "")) (tCons (tLst (tCons (tC (.int 10)) tNil)) (tCons (tTup (tCons (tC (.int 10)) tNil)) (tCons tDNewK (tCons (tLst tNil) (tCons (tTup tNil) tNil)))))))))))))))))))) (gName 2))
    (tRet (tOp rCat (tVar 2) (tLst (tCons (tDispC 10 (.int 1)) (tCons (tLst (tCons (tC (.int 2)) (tCons (tC (.int 3)) tNil))) (tCons (tC (.str "2")) tNil))))))))
def t__law_just (K : PySem.W.Frag) (C : Str → Addr) (E : XK) : TS :=
  (tSeq (tAsg (tLst (tCons (tCB (rIsX K) (tCons (tVar 0) (tCons (tC (.ref (C "NoBase"))) tNil))) (tCons (tCB (rIsX K) (tCons (tVar 0) (tCons (tC (.ref (C "NoNumber"))) tNil))) (tCons (tCB (rIsX K) (tCons (tVar 0) (tCons (tC (.ref (C "NoMirror"))) tNil))) tNil)))) (gName 2))
    (tSeq (tAsg (tOp rCat (tVar 2) (tLst (tCons (tCB (rIsX K) (tCons (tVar 0) (tCons (tC (.ref (C "NoPlace"))) tNil))) (tCons (tCB (rIsX K) (tCons (tVar 0) (tCons (tC (.ref (C "NoWay"))) tNil))) (tCons (tCB (rIsX K) (tCons (tVar 0) (tCons (tC (.ref (C "NoText"))) tNil))) tNil))))) (gName 2))
    (tSeq (tDrop (tBM K "list" rAppend (tVar 2) (tCons (tCB (rIsX K) (tCons (tVar 0) (tCons (tC (.ref (C "NoCommand"))) tNil))) tNil)))
    (tRet (tAndV (tCB (rIsX K) (tCons (tVar 0) (tCons (tC (.ty "ValueError")) tNil))) (tOp (rEqD K) (tVar 2) (tLc (iRng1 (tCons (tC (.int 7)) tNil)) (gName 3) tYes (tOp rEq (tVar 3) (tVar 1)) [3])))))))
end Mi

/-! the place of a way among those by as many -/
namespace Mi
variable {b : Nat}
/-- how many are at most x -/
def leq (ps : List Nat) (x : Nat) : Nat := (ps.filter fun p => decide (p ≤ x)).length
theorem leq_at : ∀ {ps : List Nat} {k x : Nat}, ps.Pairwise (· < ·) → ps[k]? = some x → leq ps x = k + 1
  | [], k, x, _, h => nomatch h
  | p :: ps, 0, x, hs, h => by
    cases h
    unfold leq
    rw [List.filter_cons, if_pos (decide_eq_true (Nat.le_refl _)), List.filter_eq_nil_iff.mpr fun y hy => by
      have := (List.pairwise_cons.mp hs).1 y hy
      rw [decide_eq_true_eq]
      omega]
    rfl
  | p :: ps, k + 1, x, hs, h => by
    have h : ps[k]? = some x := h
    have ih := leq_at (List.pairwise_cons.mp hs).2 h
    have := (List.pairwise_cons.mp hs).1 x (List.mem_of_getElem? h)
    unfold leq at ih ⊢
    rw [List.filter_cons, if_pos (decide_eq_true (by omega)), List.length_cons, ih]
theorem rise_lt {ps : List Nat} (hs : ps.Pairwise (· < ·)) {i j x y : Nat} (hi : ps[i]? = some x) (hj : ps[j]? = some y) (h : i < j) : x < y := by
  obtain ⟨h1, e1⟩ := List.getElem?_eq_some_iff.mp hi
  obtain ⟨h2, e2⟩ := List.getElem?_eq_some_iff.mp hj
  have := List.pairwise_iff_getElem.mp hs i j h1 h2 h
  omega
theorem rise_le {ps : List Nat} (hs : ps.Pairwise (· < ·)) {i j x y : Nat} (hi : ps[i]? = some x) (hj : ps[j]? = some y) (h : x ≤ y) : i ≤ j := by
  apply Nat.le_of_not_lt
  intro z
  have := rise_lt hs hj hi z
  omega
/-- the ways that go on with the part of this place, where it is greater than own -/
def grAt (ps : List Nat) (c n own i : Nat) : Nat := match ps[i]? with
  | some p => if own < p ∧ p ≤ n then Wn (ps.take (i + 1)).reverse c (n - p) else 0
  | none => 0
theorem grAt_eq {ps : List Nat} {c n own i p : Nat} (h : ps[i]? = some p) : grAt ps c n own i = if own < p ∧ p ≤ n then Wn (ps.take (i + 1)).reverse c (n - p) else 0 := by
  unfold grAt
  rw [h]
def grS (ps : List Nat) (c n own : Nat) : Nat → Nat
  | 0 => 0
  | m + 1 => grS ps c n own m + grAt ps c n own m
theorem grS_zero {ps : List Nat} {c n own : Nat} : ∀ {m : Nat}, (∀ i p, i < m → ps[i]? = some p → p ≤ own) → grS ps c n own m = 0
  | 0, _ => rfl
  | m + 1, h => by
    show grS ps c n own m + grAt ps c n own m = 0
    rw [grS_zero fun i p hi hp => h i p (by omega) hp, Nat.zero_add]
    unfold grAt
    cases e : ps[m]? with
    | none => rfl
    | some p =>
      have := h m p (Nat.lt_succ_self _) e
      show (if own < p ∧ p ≤ n then _ else 0) = 0
      rw [if_neg (by omega)]
/-- how many ways by as many are greater; the greatest part is among the first m -/
def plW (ps : List Nat) : List Nat → Nat → Nat → Nat
  | [], _, _ => 0
  | own :: l, n, m => grS ps l.length n own m + plW ps l (n - own) (leq ps own)
structure IsW (ps : List Nat) (N : Nat) (l : List Nat) : Prop where
  mem : ∀ p ∈ l, p ∈ ps
  fall : l.Pairwise fun a b => b ≤ a
  sum : l.sum = N
theorem sum_len : ∀ {l : List Nat}, (∀ p ∈ l, 0 < p) → l.length ≤ l.sum
  | [], _ => Nat.le_refl _
  | p :: l, h => by
    have := sum_len (l := l) fun q hq => h q (List.mem_cons_of_mem _ hq)
    have := h p List.mem_cons_self
    rw [List.sum_cons, List.length_cons]
    omega
theorem pair_fall {bs : List Nat} (h : ∀ z ∈ bs.zip (bs.drop 1), ¬ z.1 < z.2) : bs.Pairwise fun a b => b ≤ a := by
  induction bs with
  | nil => exact .nil
  | cons x bs ih =>
    cases bs with
    | nil => exact List.pairwise_singleton _ _
    | cons y bs =>
      have h1 : y ≤ x := by
        have := h (x, y) List.mem_cons_self
        dsimp only at this
        omega
      have h2 := ih fun z hz => h z (List.mem_cons_of_mem _ hz)
      refine List.pairwise_cons.mpr ⟨fun z hz => ?_, h2⟩
      rcases List.mem_cons.mp hz with e | e
      · rw [e]
        exact h1
      · exact Nat.le_trans ((List.pairwise_cons.mp h2).1 z e) h1
theorem fall_pair {bs : List Nat} (h : bs.Pairwise fun a b => b ≤ a) : ∀ z ∈ bs.zip (bs.drop 1), ¬ z.1 < z.2 := by
  intro z hz
  obtain ⟨i, hi⟩ := List.mem_iff_getElem?.mp hz
  obtain ⟨h1, h2⟩ := List.getElem?_zip_eq_some.mp hi
  rw [List.getElem?_drop] at h2
  obtain ⟨a1, e1⟩ := List.getElem?_eq_some_iff.mp h1
  obtain ⟨a2, e2⟩ := List.getElem?_eq_some_iff.mp h2
  have := List.pairwise_iff_getElem.mp h i (1 + i) a1 a2 (by omega)
  omega
theorem sum_drop : ∀ (l : List Nat) (i : Nat), (l.drop i).sum ≤ l.sum
  | [], i => by rw [List.drop_nil]; exact Nat.le_refl _
  | x :: l, 0 => Nat.le_refl _
  | x :: l, i + 1 => by
    have := sum_drop l i
    rw [List.drop_succ_cons, List.sum_cons]
    omega
/-- along a way: what is left, and among how many parts the next one is -/
structure WpI (ps l : List Nat) (i n m : Nat) : Prop where
  left : n = (l.drop i).sum
  most : m ≤ ps.length
  at_ : ∀ x ∈ l.drop i, ∃ k, k < m ∧ ps[k]? = some x
theorem WpI.zero {ps l : List Nat} {N : Nat} (w : IsW ps N l) : WpI ps l 0 N ps.length :=
  ⟨w.sum.symm, Nat.le_refl _, fun x hx => by
    obtain ⟨k, hk⟩ := List.mem_iff_getElem?.mp (w.mem x hx)
    exact ⟨k, (List.getElem?_eq_some_iff.mp hk).1, hk⟩⟩
theorem WpI.step {ps l : List Nat} {N i n m own : Nat} (hs : ps.Pairwise (· < ·)) (w : IsW ps N l) (h : l[i]? = some own) (I : WpI ps l i n m) :
    ∃ k, k < m ∧ ps[k]? = some own ∧ leq ps own = k + 1 ∧ own ≤ n ∧ WpI ps l (i + 1) (n - own) (k + 1) ∧ plW ps (l.drop i) n m = grS ps (l.length - 1 - i) n own m + plW ps (l.drop (i + 1)) (n - own) (k + 1) := by
  obtain ⟨hi, e⟩ := List.getElem?_eq_some_iff.mp h
  have ed : l.drop i = own :: l.drop (i + 1) := by rw [List.drop_eq_getElem_cons hi, e]
  obtain ⟨k, hk, hp⟩ := I.at_ own (by rw [ed]; exact List.mem_cons_self)
  have hl := leq_at hs hp
  have hn : n = own + (l.drop (i + 1)).sum := by rw [I.left, ed, List.sum_cons]
  refine ⟨k, hk, hp, hl, by omega, ⟨by omega, by have := (List.getElem?_eq_some_iff.mp hp).1; omega, fun x hx => ?_⟩, ?_⟩
  · obtain ⟨k', hk', hp'⟩ := I.at_ x (by rw [ed]; exact List.mem_cons_of_mem _ hx)
    refine ⟨k', ?_, hp'⟩
    have hf := w.fall.sublist (List.drop_sublist i l)
    rw [ed] at hf
    have := rise_le hs hp' hp ((List.pairwise_cons.mp hf).1 x hx)
    omega
  · rw [ed]
    show grS ps (l.drop (i + 1)).length n own m + plW ps (l.drop (i + 1)) (n - own) (leq ps own) = _
    rw [hl, List.length_drop, show l.length - (i + 1) = l.length - 1 - i by omega]
theorem grS_low {ps : List Nat} {c n k own : Nat} (hs : ps.Pairwise (· < ·)) (hp : ps[k]? = some own) : grS ps c n own (k + 1) = 0 :=
  grS_zero fun i p hi hpi => by
    by_cases e : i = k
    · subst e
      rw [hp] at hpi
      cases hpi
      exact Nat.le_refl _
    · exact Nat.le_of_lt (rise_lt hs hpi hp (by omega))
end Mi

/-! all ways of a small number, gone through -/
namespace Mi
variable {b : Nat}
def turnL (f : Nat → Nat → List (List Nat)) (n most p : Nat) : List (List Nat) := if p ≤ most ∧ p ≤ n then (f (n - p) p).map (p :: ·) else []
def LL (ps : List Nat) : Nat → Nat → Nat → List (List Nat)
  | 0, _, _ => []
  | d + 1, n, most => if n = 0 then [[]] else ps.flatMap (turnL (LL ps d) n most)
theorem flat_filter {α β : Type} {f : α → List β} {q : α → Bool} : ∀ (l : List α), (∀ x ∈ l, q x = false → f x = []) → (l.filter q).flatMap f = l.flatMap f
  | [], _ => rfl
  | x :: l, h => by
    have ih := flat_filter l fun y hy => h y (List.mem_cons_of_mem _ hy)
    rw [List.filter_cons, List.flatMap_cons]
    by_cases c : q x = true
    · rw [if_pos c, List.flatMap_cons, ih]
    · rw [if_neg c, ih, h x List.mem_cons_self (by simpa using c)]
      rfl
theorem flat_congr {α β : Type} {f g : α → List β} : ∀ (l : List α), (∀ x ∈ l, f x = g x) → l.flatMap f = l.flatMap g
  | [], _ => rfl
  | x :: l, h => by rw [List.flatMap_cons, List.flatMap_cons, h x List.mem_cons_self, flat_congr l fun y hy => h y (List.mem_cons_of_mem _ hy)]
theorem LL_cut (ps : List Nat) (N : Nat) : ∀ (d n most : Nat), n ≤ N → LL (ps.filter fun p => decide (p ≤ N)) d n most = LL ps d n most
  | 0, _, _, _ => rfl
  | d + 1, n, most, h => by
    show (if n = 0 then _ else _) = if n = 0 then _ else _
    by_cases c : n = 0
    · rw [if_pos c, if_pos c]
    · rw [if_neg c, if_neg c]
      have h1 := flat_filter (f := turnL (LL (ps.filter fun p => decide (p ≤ N)) d) n most) (q := fun p => decide (p ≤ N)) ps fun p _ hp => by
        unfold turnL
        have := of_decide_eq_false hp
        rw [if_neg (by omega)]
      rw [h1]
      refine flat_congr ps fun p _ => ?_
      unfold turnL
      split
      · rw [LL_cut ps N d (n - p) p (by omega)]
      · rfl
def psS (b : Nat) : List Nat := (List.range 13).filter fun m => decide (0 < m) && mirQ 4 b m
def chkL (b n : Nat) : Bool := decide ((LL (psS b) 14 n n).length = An ((psS b).filter fun p => decide (p ≤ n)).reverse n) && decide ((LL (psS b) 14 n n).length ≤ 100) &&
  (List.range 13).all fun m => decide (((LL (psS b) 14 n n).filter fun l => decide (l.length = m)).length = Wn ((psS b).filter fun p => decide (p ≤ n)).reverse m n)
theorem chkL_2 : ((List.range 13).all fun n => chkL 2 n) = true := by decide +kernel
theorem chkL_3 : ((List.range 13).all fun n => chkL 3 n) = true := by decide +kernel
theorem chkL_4 : ((List.range 13).all fun n => chkL 4 n) = true := by decide +kernel
theorem chkL_5 : ((List.range 13).all fun n => chkL 5 n) = true := by decide +kernel
theorem chkL_6 : ((List.range 13).all fun n => chkL 6 n) = true := by decide +kernel
theorem chkL_7 : ((List.range 13).all fun n => chkL 7 n) = true := by decide +kernel
theorem chkL_8 : ((List.range 13).all fun n => chkL 8 n) = true := by decide +kernel
theorem chkL_9 : ((List.range 13).all fun n => chkL 9 n) = true := by decide +kernel
theorem chkL_10 : ((List.range 13).all fun n => chkL 10 n) = true := by decide +kernel
theorem chkL_11 : ((List.range 13).all fun n => chkL 11 n) = true := by decide +kernel
theorem chkL_12 : ((List.range 13).all fun n => chkL 12 n) = true := by decide +kernel
theorem chkL_13 : ((List.range 13).all fun n => chkL 13 n) = true := by decide +kernel
/-- in a base above 12 all are mirrored -/
theorem psS_big {b : Nat} (h : 13 ≤ b) (h2 : b ≤ 36) : psS b = psS 13 := by
  have : ((List.range 24).all fun i => decide (psS (i + 13) = psS 13)) = true := by decide +kernel
  have := of_decide_eq_true (List.all_eq_true.mp this (b - 13) (List.mem_range.mpr (by omega)))
  rwa [show b - 13 + 13 = b by omega] at this
theorem chkL_of {b n : Nat} (hb : 2 ≤ b) (hb2 : b ≤ 36) (hn : n < 13) : chkL b n = true := by
  by_cases h : 13 ≤ b
  · have : chkL b n = chkL 13 n := by
      unfold chkL
      rw [psS_big h hb2]
    rw [this]
    exact List.all_eq_true.mp chkL_13 n (List.mem_range.mpr hn)
  · have : b = 2 ∨ b = 3 ∨ b = 4 ∨ b = 5 ∨ b = 6 ∨ b = 7 ∨ b = 8 ∨ b = 9 ∨ b = 10 ∨ b = 11 ∨ b = 12 := by omega
    rcases this with rfl | rfl | rfl | rfl | rfl | rfl | rfl | rfl | rfl | rfl | rfl
    · exact List.all_eq_true.mp chkL_2 n (List.mem_range.mpr hn)
    · exact List.all_eq_true.mp chkL_3 n (List.mem_range.mpr hn)
    · exact List.all_eq_true.mp chkL_4 n (List.mem_range.mpr hn)
    · exact List.all_eq_true.mp chkL_5 n (List.mem_range.mpr hn)
    · exact List.all_eq_true.mp chkL_6 n (List.mem_range.mpr hn)
    · exact List.all_eq_true.mp chkL_7 n (List.mem_range.mpr hn)
    · exact List.all_eq_true.mp chkL_8 n (List.mem_range.mpr hn)
    · exact List.all_eq_true.mp chkL_9 n (List.mem_range.mpr hn)
    · exact List.all_eq_true.mp chkL_10 n (List.mem_range.mpr hn)
    · exact List.all_eq_true.mp chkL_11 n (List.mem_range.mpr hn)
    · exact List.all_eq_true.mp chkL_12 n (List.mem_range.mpr hn)
theorem psS_eq (hb : 2 ≤ b) : psS b = mirs b 13 := by
  unfold psS mirs
  refine List.filter_congr fun m hm => ?_
  rw [mirQ_eq hb (f := 4) (by have := List.mem_range.mp hm; omega)]
/-- of few: the lists are the ways -/
theorem LL_few (hb : 2 ≤ b) (hb2 : b ≤ 36) {N n : Nat} (hn : n ≤ 12) (hN : n ≤ N) : (LL (mirs b (N + 1)) 14 n n).length = An (mirs b (n + 1)).reverse n ∧ (LL (mirs b (N + 1)) 14 n n).length ≤ 100 ∧
    ∀ m, m < 13 → ((LL (mirs b (N + 1)) 14 n n).filter fun l => decide (l.length = m)).length = Wn (mirs b (n + 1)).reverse m n := by
  have h2 := chkL_of hb hb2 (show n < 13 by omega)
  unfold chkL at h2
  rw [psS_eq hb, mirs_cut (by omega)] at h2
  have e : LL (mirs b (N + 1)) 14 n n = LL (mirs b 13) 14 n n := by
    rw [← LL_cut (mirs b (N + 1)) n 14 n n (Nat.le_refl _), ← LL_cut (mirs b 13) n 14 n n (Nat.le_refl _), mirs_cut (by omega), mirs_cut (by omega)]
  rw [e]
  rw [Bool.and_eq_true, Bool.and_eq_true, decide_eq_true_eq, decide_eq_true_eq] at h2
  obtain ⟨⟨g1, g2⟩, g3⟩ := h2
  exact ⟨g1, g2, fun m hm => of_decide_eq_true (List.all_eq_true.mp g3 m (List.mem_range.mpr hm))⟩
end Mi

/-! all ways by so many, gone through -/
namespace Mi
variable {b : Nat}
def turnW (f : Nat → Nat → List (List Nat)) (m n most p : Nat) : List (List Nat) := if p ≤ most ∧ p ≤ n ∧ n ≤ p * (m + 1) then (f (n - p) p).map (p :: ·) else []
def allW (ps : List Nat) : Nat → Nat → Nat → List (List Nat)
  | 0, n, _ => if n = 0 then [[]] else []
  | m + 1, n, most => ps.flatMap (turnW (allW ps m) m n most)
theorem all_mem {N : Nat} : ∀ (m n most : Nat), n ≤ N → ∀ l, l ∈ allW (mirs b (N + 1)) m n most ↔ WayB b n m most l
  | 0, n, most, hn, l => by
    unfold allW
    by_cases c : n = 0
    · rw [if_pos c, List.mem_singleton]
      constructor
      · rintro rfl
        exact ⟨rfl, c.symm, (fun d hd => nomatch hd), .nil⟩
      · intro h
        exact List.length_eq_zero_iff.mp h.len
    · rw [if_neg c]
      constructor
      · intro h
        cases h
      · intro h
        have e := List.length_eq_zero_iff.mp h.len
        subst e
        exact absurd h.sum.symm c
  | m + 1, n, most, hn, l => by
    unfold allW
    rw [List.mem_flatMap]
    constructor
    · rintro ⟨p, hp, h⟩
      unfold turnW at h
      by_cases c : p ≤ most ∧ p ≤ n ∧ n ≤ p * (m + 1)
      · rw [if_pos c] at h
        obtain ⟨r, hr, rfl⟩ := List.mem_map.mp h
        obtain ⟨_, h1, h2⟩ := mirs_mem.mp hp
        exact way_cons.mpr ⟨h1, h2, c.1, c.2.1, (all_mem m (n - p) p (by omega) r).mp hr⟩
      · rw [if_neg c] at h
        cases h
    · intro h
      cases l with
      | nil =>
        have := h.len
        cases this
      | cons p r =>
        obtain ⟨h1, h2, h3, h4, hr⟩ := way_cons.mp h
        refine ⟨p, mirs_mem.mpr ⟨by omega, h1, h2⟩, ?_⟩
        unfold turnW
        rw [if_pos ⟨h3, h4, way_top h⟩]
        exact List.mem_map.mpr ⟨r, (all_mem m (n - p) p (by omega) r).mpr hr, rfl⟩
theorem flat_len {α β : Type} {f : α → List β} {k : Nat} : ∀ {l : List α}, (∀ x ∈ l, (f x).length ≤ k) → (l.flatMap f).length ≤ l.length * k
  | [], _ => Nat.zero_le _
  | x :: l, h => by
    have h1 := h x List.mem_cons_self
    have h2 := flat_len (l := l) fun y hy => h y (List.mem_cons_of_mem _ hy)
    rw [List.flatMap_cons, List.length_append, List.length_cons, Nat.succ_mul]
    omega
theorem all_one {ps : List Nat} (h : ps.Pairwise (· < ·)) (n most : Nat) : (ps.flatMap (turnW (allW ps 0) 0 n most)).length ≤ 1 := by
  have key : ∀ qs : List Nat, qs.Pairwise (· < ·) → (qs.flatMap (turnW (allW ps 0) 0 n most)).length ≤ if n ∈ qs then 1 else 0 := by
    intro qs
    induction qs with
    | nil => intro _; exact Nat.zero_le _
    | cons p qs ih =>
      intro hq
      obtain ⟨h1, h2⟩ := List.pairwise_cons.mp hq
      have ih := ih h2
      rw [List.flatMap_cons, List.length_append]
      by_cases c : p = n
      · subst c
        rw [if_neg (fun z => absurd (h1 p z) (Nat.lt_irrefl _))] at ih
        rw [if_pos List.mem_cons_self]
        have : (turnW (allW ps 0) 0 p most p).length ≤ 1 := by
          unfold turnW
          split
          · rw [List.length_map]
            unfold allW
            split
            · exact Nat.le_refl _
            · exact Nat.zero_le _
          · exact Nat.zero_le _
        omega
      · have : (turnW (allW ps 0) 0 n most p).length = 0 := by
          unfold turnW
          rw [if_neg (by omega)]
          rfl
        by_cases c2 : n ∈ qs
        · rw [if_pos c2] at ih
          rw [if_pos (List.mem_cons_of_mem _ c2)]
          omega
        · rw [if_neg c2] at ih
          omega
  have := key ps h
  split at this <;> omega
theorem all_len {ps : List Nat} (h : ps.Pairwise (· < ·)) : ∀ (m n most : Nat), (allW ps (m + 1) n most).length ≤ ps.length ^ m
  | 0, n, most => all_one h n most
  | m + 1, n, most => by
    rw [Nat.pow_succ, Nat.mul_comm]
    refine flat_len fun p hp => ?_
    unfold turnW
    split
    · rw [List.length_map]
      exact all_len h m (n - p) p
    · exact Nat.zero_le _
theorem all_bound {N m n most : Nat} (hN : N ≤ 150) (hm : m ≤ 4) : (allW (mirs b (N + 1)) m n most).length ≤ 3500000 := by
  cases m with
  | zero =>
    unfold allW
    split <;> simp
  | succ m =>
    refine Nat.le_trans (all_len mirs_rise m n most) ?_
    have h1 : (mirs b (N + 1)).length ≤ 151 := Nat.le_trans mirs_len (by omega)
    have h2 : (mirs b (N + 1)).length ^ m ≤ 151 ^ m := Nat.pow_le_pow_left h1 m
    have h3 : 151 ^ m ≤ 151 ^ 3 := Nat.pow_le_pow_right (by decide) (by omega)
    have h4 : 151 ^ 3 ≤ 3500000 := by decide
    omega
theorem all_pre {N m n most i : Nat} : ((mirs b (N + 1)).take i).flatMap (turnW (allW (mirs b (N + 1)) m) m n most) <+: allW (mirs b (N + 1)) (m + 1) n most := by
  refine ⟨((mirs b (N + 1)).drop i).flatMap (turnW (allW (mirs b (N + 1)) m) m n most), ?_⟩
  rw [← List.flatMap_append, List.take_append_drop]
  rfl
/-! the order -/
theorem lle_total : ∀ l l', lle l l' ∨ lle l' l
  | [], _ => .inl trivial
  | _ :: _, [] => .inr trivial
  | x :: l, y :: l' => by
    rcases Nat.lt_trichotomy x y with z | rfl | z
    · exact .inl (.inl z)
    · rcases lle_total l l' with h | h
      · exact .inl (.inr ⟨rfl, h⟩)
      · exact .inr (.inr ⟨rfl, h⟩)
    · exact .inr (.inl z)
theorem lle_trans : ∀ {l m n}, lle l m → lle m n → lle l n
  | [], _, _, _, _ => trivial
  | _ :: _, [], _, h, _ => h.elim
  | _ :: _, _ :: _, [], _, h => h.elim
  | x :: l, y :: m, z :: n, h1, h2 => by
    rcases h1 with h1 | ⟨rfl, h1⟩
    · rcases h2 with h2 | ⟨rfl, h2⟩
      · exact .inl (Nat.lt_trans h1 h2)
      · exact .inl h1
    · rcases h2 with h2 | ⟨rfl, h2⟩
      · exact .inl h2
      · exact .inr ⟨rfl, lle_trans h1 h2⟩
end Mi

/-! all ways by so many in order, greatest lists first -/
namespace Mi
variable {b : Nat}
def blkW (ps : List Nat) (f : Nat → Nat → List (List Nat)) (m n : Nat) : List (List Nat) := match ps[m]? with
  | some p => if p ≤ n then (f (m + 1) (n - p)).map (p :: ·) else []
  | none => []
def enwC (ps : List Nat) (f : Nat → Nat → List (List Nat)) : Nat → Nat → List (List Nat)
  | 0, _ => []
  | m + 1, n => blkW ps f m n ++ enwC ps f m n
/-- the ways of n by c of the first m parts -/
def enw (ps : List Nat) : Nat → Nat → Nat → List (List Nat)
  | 0 => fun _ n => if n = 0 then [[]] else []
  | c + 1 => enwC ps (enw ps c)
theorem blkW_eq {ps : List Nat} {f : Nat → Nat → List (List Nat)} {m n p : Nat} (h : ps[m]? = some p) : blkW ps f m n = if p ≤ n then (f (m + 1) (n - p)).map (p :: ·) else [] := by
  unfold blkW
  rw [h]
theorem wn_zero : ∀ (qs : List Nat) (n : Nat), Wn qs 0 n = if n = 0 then 1 else 0
  | [], n => by
    show (if 0 = 0 ∧ n = 0 then 1 else 0) = _
    simp
  | p :: qs, n => wn_zero qs n
theorem take_rev {ps : List Nat} {m p : Nat} (h : ps[m]? = some p) : (ps.take (m + 1)).reverse = p :: (ps.take m).reverse := by
  obtain ⟨h1, h2⟩ := List.getElem?_eq_some_iff.mp h
  rw [List.take_succ, h, List.reverse_append]
  rfl
theorem enw_len {ps : List Nat} : ∀ (c m n : Nat), m ≤ ps.length → (enw ps c m n).length = Wn (ps.take m).reverse c n
  | 0, m, n, _ => by
    rw [wn_zero]
    show (if n = 0 then [[]] else ([] : List (List Nat))).length = _
    split <;> rfl
  | c + 1, 0, n, _ => rfl
  | c + 1, m + 1, n, h => by
    obtain ⟨p, hp⟩ : ∃ p, ps[m]? = some p := ⟨_, List.getElem?_eq_getElem (by omega)⟩
    show (blkW ps (enw ps c) m n ++ enw ps (c + 1) m n).length = _
    rw [List.length_append, enw_len (c + 1) m n (by omega), blkW_eq hp, take_rev hp]
    show _ = Wn (ps.take m).reverse (c + 1) n + if p ≤ n then WnC (Wn (ps.take m).reverse) p c (n - p) else 0
    by_cases q : p ≤ n
    · rw [if_pos q, if_pos q, List.length_map, enw_len c (m + 1) (n - p) h, take_rev hp, Nat.add_comm]
      rfl
    · rw [if_neg q, if_neg q, Nat.add_comm]
      rfl
/-- so many of the first m parts, falling -/
structure IsN (ps : List Nat) (c m n : Nat) (l : List Nat) : Prop where
  len : l.length = c
  mem : ∀ p ∈ l, p ∈ ps.take m
  fall : l.Pairwise fun a b => b ≤ a
  sum : l.sum = n
theorem IsN.more {ps : List Nat} {c m n : Nat} {l : List Nat} (h : IsN ps c m n l) : IsN ps c (m + 1) n l := ⟨h.len, fun p hp => by
  rw [List.take_succ]
  exact List.mem_append.mpr (.inl (h.mem p hp)), h.fall, h.sum⟩
theorem take_mem {ps : List Nat} {m p : Nat} (h : p ∈ ps.take m) : ∃ i, i < m ∧ ps[i]? = some p := by
  obtain ⟨i, hi⟩ := List.mem_iff_getElem?.mp h
  have h1 := (List.getElem?_eq_some_iff.mp hi).1
  rw [List.length_take] at h1
  rw [List.getElem?_take_of_lt (by omega)] at hi
  exact ⟨i, by omega, hi⟩
theorem mem_take {ps : List Nat} {m i p : Nat} (hi : i < m) (h : ps[i]? = some p) : p ∈ ps.take m := List.mem_of_getElem? (i := i) (by rw [List.getElem?_take_of_lt hi]; exact h)
theorem enw_mem {ps : List Nat} (hs : ps.Pairwise (· < ·)) : ∀ (c m n : Nat), m ≤ ps.length → ∀ l, l ∈ enw ps c m n ↔ IsN ps c m n l
  | 0, m, n, _, l => by
    show l ∈ (if n = 0 then [[]] else ([] : List (List Nat))) ↔ _
    constructor
    · intro h
      split at h
      · rename_i e
        rw [List.mem_singleton.mp h]
        exact ⟨rfl, (fun _ h => nomatch h), .nil, e.symm⟩
      · cases h
    · intro h
      have e := List.length_eq_zero_iff.mp h.len
      have := h.sum
      rw [e] at this
      rw [if_pos (by rw [← this]; rfl), e]
      exact List.mem_singleton.mpr rfl
  | c + 1, 0, n, _, l => by
    constructor
    · intro h
      cases h
    · intro h
      cases l with
      | nil => exact absurd h.len (by simp)
      | cons p l =>
        have := h.mem p List.mem_cons_self
        cases this
  | c + 1, m + 1, n, hm, l => by
    obtain ⟨p, hp⟩ : ∃ p, ps[m]? = some p := ⟨_, List.getElem?_eq_getElem (by omega)⟩
    show l ∈ blkW ps (enw ps c) m n ++ enw ps (c + 1) m n ↔ _
    rw [List.mem_append, enw_mem hs (c + 1) m n (by omega) l, blkW_eq hp]
    constructor
    · rintro (h | h)
      · split at h
        · rename_i q
          obtain ⟨r, hr, rfl⟩ := List.mem_map.mp h
          have g := (enw_mem hs c (m + 1) (n - p) hm r).mp hr
          refine ⟨congrArg Nat.succ g.len, fun x hx => ?_, List.pairwise_cons.mpr ⟨fun x hx => ?_, g.fall⟩, by rw [List.sum_cons, g.sum]; omega⟩
          · rcases List.mem_cons.mp hx with e | e
            · rw [e]
              exact mem_take (Nat.lt_succ_self _) hp
            · exact g.mem x e
          · obtain ⟨i, hi, hx2⟩ := take_mem (g.mem x hx)
            by_cases e : i = m
            · subst e
              rw [hp] at hx2
              cases hx2
              exact Nat.le_refl _
            · exact Nat.le_of_lt (rise_lt hs hx2 hp (by omega))
        · cases h
      · exact h.more
    · intro h
      cases l with
      | nil => exact absurd h.len (by simp)
      | cons x r =>
        obtain ⟨f1, f2⟩ := List.pairwise_cons.mp h.fall
        have hsum := h.sum
        rw [List.sum_cons] at hsum
        obtain ⟨i, hi, hx⟩ := take_mem (h.mem x List.mem_cons_self)
        by_cases e : i = m
        · subst e
          rw [hp] at hx
          cases hx
          left
          rw [if_pos (by omega)]
          refine List.mem_map.mpr ⟨r, (enw_mem hs c (i + 1) (n - p) hm r).mpr ⟨Nat.succ.inj h.len, fun y hy => h.mem y (List.mem_cons_of_mem _ hy), f2, by omega⟩, rfl⟩
        · right
          refine ⟨h.len, fun y hy => ?_, h.fall, h.sum⟩
          obtain ⟨j, hj, hy2⟩ := take_mem (h.mem y hy)
          have hyx : y ≤ x := by
            rcases List.mem_cons.mp hy with e2 | e2
            · exact Nat.le_of_eq e2
            · exact f1 y e2
          have := rise_le hs hy2 hx hyx
          exact mem_take (by omega) hy2
theorem enw_place {ps : List Nat} (hs : ps.Pairwise (· < ·)) : ∀ (c m n : Nat), m ≤ ps.length → ∀ (k : Nat) l, (enw ps c m n)[k]? = some l → plW ps l n m = k
  | 0, m, n, _, k, l, h => by
    have h : (if n = 0 then [[]] else ([] : List (List Nat)))[k]? = some l := h
    split at h
    · have hk := (List.getElem?_eq_some_iff.mp h).1
      have hk : k < 1 := hk
      have : k = 0 := by omega
      subst this
      cases h
      rfl
    · cases h
  | c + 1, 0, n, _, k, l, h => by cases h
  | c + 1, m + 1, n, hm, k, l, h => by
    obtain ⟨p, hp⟩ : ∃ p, ps[m]? = some p := ⟨_, List.getElem?_eq_getElem (by omega)⟩
    have hl := (enw_mem hs (c + 1) (m + 1) n hm l).mp (List.mem_of_getElem? h)
    have h : (blkW ps (enw ps c) m n ++ enw ps (c + 1) m n)[k]? = some l := h
    rw [blkW_eq hp] at h
    cases l with
    | nil => exact absurd hl.len (by simp)
    | cons x r =>
      have hrl : r.length = c := Nat.succ.inj hl.len
      by_cases q : k < (if p ≤ n then (enw ps c (m + 1) (n - p)).map (p :: ·) else []).length
      · rw [List.getElem?_append_left q] at h
        split at h
        · rw [List.getElem?_map] at h
          obtain ⟨r', hr, e⟩ := Option.map_eq_some_iff.mp h
          cases e
          have ih := enw_place hs c (m + 1) (n - p) hm k r hr
          show grS ps r.length n p (m + 1) + plW ps r (n - p) (leq ps p) = k
          rw [grS_low hs hp, leq_at hs hp, ih, Nat.zero_add]
        · cases h
      · rw [List.getElem?_append_right (by omega)] at h
        have ih := enw_place hs (c + 1) m n (by omega) _ _ h
        have hl2 := (enw_mem hs (c + 1) m n (by omega) _).mp (List.mem_of_getElem? h)
        obtain ⟨i, hi, hx⟩ := take_mem (hl2.mem x List.mem_cons_self)
        have hxp := rise_lt hs hx hp hi
        have ih : grS ps r.length n x m + plW ps r (n - x) (leq ps x) = _ := ih
        show grS ps r.length n x m + grAt ps r.length n x m + plW ps r (n - x) (leq ps x) = k
        have e : grAt ps r.length n x m = (if p ≤ n then (enw ps c (m + 1) (n - p)).map (p :: ·) else []).length := by
          rw [grAt_eq hp, hrl]
          by_cases z : p ≤ n
          · rw [if_pos ⟨hxp, z⟩, if_pos z, List.length_map, enw_len c (m + 1) (n - p) hm]
          · rw [if_neg (fun w => z w.2), if_neg z]
            rfl
        omega
/-- strictly falling -/
def Lgt (a b : List Nat) : Prop := lle b a ∧ a ≠ b
theorem enw_fall {ps : List Nat} (hs : ps.Pairwise (· < ·)) : ∀ (c m n : Nat), m ≤ ps.length → (enw ps c m n).Pairwise Lgt
  | 0, m, n, _ => by
    show (if n = 0 then [[]] else ([] : List (List Nat))).Pairwise Lgt
    split
    · exact List.pairwise_singleton ..
    · exact .nil
  | c + 1, 0, n, _ => .nil
  | c + 1, m + 1, n, hm => by
    obtain ⟨p, hp⟩ : ∃ p, ps[m]? = some p := ⟨_, List.getElem?_eq_getElem (by omega)⟩
    show (blkW ps (enw ps c) m n ++ enw ps (c + 1) m n).Pairwise Lgt
    rw [blkW_eq hp]
    refine List.pairwise_append.mpr ⟨?_, enw_fall hs (c + 1) m n (by omega), fun x hx y hy => ?_⟩
    · split
      · refine List.pairwise_map.mpr ((enw_fall hs c (m + 1) (n - p) hm).imp fun h => ?_)
        exact ⟨.inr ⟨rfl, h.1⟩, fun e => h.2 (List.cons.inj e).2⟩
      · exact .nil
    · split at hx
      · obtain ⟨r, hr, rfl⟩ := List.mem_map.mp hx
        have g := (enw_mem hs (c + 1) m n (by omega) y).mp hy
        cases y with
        | nil => exact absurd g.len (by simp)
        | cons z y =>
          obtain ⟨i, hi, hz⟩ := take_mem (g.mem z List.mem_cons_self)
          have := rise_lt hs hz hp hi
          exact ⟨.inl this, fun e => by have := (List.cons.inj e).1; omega⟩
      · cases hx
theorem enw_nodup {ps : List Nat} (hs : ps.Pairwise (· < ·)) {c m n : Nat} (hm : m ≤ ps.length) : (enw ps c m n).Nodup := (enw_fall hs c m n hm).imp fun h => h.2
end Mi

/-! what ways in order tell: by two, by few, beside one another, of one more -/
namespace Mi
variable {b : Nat}
theorem lle_anti : ∀ {l m : List Nat}, lle l m → lle m l → l = m
  | [], [], _, _ => rfl
  | [], _ :: _, _, h => h.elim
  | _ :: _, [], h, _ => h.elim
  | x :: l, y :: m, h, g => by
    rcases h with h | ⟨rfl, h⟩
    · rcases g with g | ⟨rfl, g⟩
      · omega
      · omega
    · rcases g with g | ⟨_, g⟩
      · omega
      · rw [lle_anti h g]
theorem Lgt.irr {l : List Nat} (h : Lgt l l) : False := h.2 rfl
theorem Lgt.asym {l m : List Nat} (h : Lgt l m) (g : Lgt m l) : False := h.2 (lle_anti g.1 h.1)
theorem lgt_uniq : ∀ {l m : List (List Nat)}, l.Pairwise Lgt → m.Pairwise Lgt → (∀ x, x ∈ l ↔ x ∈ m) → l = m
  | [], [], _, _, _ => rfl
  | [], y :: m, _, _, h => nomatch (h y).mpr List.mem_cons_self
  | x :: l, [], _, _, h => nomatch (h x).mp List.mem_cons_self
  | x :: l, y :: m, hl, hm, h => by
    obtain ⟨l1, l2⟩ := List.pairwise_cons.mp hl
    obtain ⟨m1, m2⟩ := List.pairwise_cons.mp hm
    have e : x = y := by
      rcases List.mem_cons.mp ((h x).mp List.mem_cons_self) with e | e
      · exact e
      · rcases List.mem_cons.mp ((h y).mpr List.mem_cons_self) with e2 | e2
        · exact e2.symm
        · exact ((m1 x e).asym (l1 y e2)).elim
    subst e
    rw [lgt_uniq l2 m2 fun z => ⟨fun hz => ?_, fun hz => ?_⟩]
    · rcases List.mem_cons.mp ((h z).mp (List.mem_cons_of_mem _ hz)) with e | e
      · subst e
        exact (l1 z hz).irr.elim
      · exact e
    · rcases List.mem_cons.mp ((h z).mpr (List.mem_cons_of_mem _ hz)) with e | e
      · subst e
        exact (m1 z hz).irr.elim
      · exact e
theorem nodup_le {α : Type} [BEq α] [LawfulBEq α] : ∀ {l m : List α}, l.Nodup → (∀ x ∈ l, x ∈ m) → l.length ≤ m.length
  | [], _, _, _ => Nat.zero_le _
  | x :: l, m, hn, h => by
    obtain ⟨h1, h2⟩ := List.nodup_cons.mp hn
    have hx := h x List.mem_cons_self
    have := nodup_le (m := m.erase x) h2 fun y hy => (List.mem_erase_of_ne (fun e => by rw [e] at hy; exact h1 hy)).mpr (h y (List.mem_cons_of_mem _ hy))
    rw [List.length_erase_of_mem hx] at this
    have := List.length_pos_of_mem hx
    rw [List.length_cons]
    omega
/-- the ways of n by c, greatest lists first -/
def waysN (b n c : Nat) : List (List Nat) := enw (mirs b (n + 1)) c (mirs b (n + 1)).length n
theorem waysN_len (n c : Nat) : (waysN b n c).length = Wn (mirs b (n + 1)).reverse c n := by
  unfold waysN
  rw [enw_len _ _ _ (Nat.le_refl _), List.take_of_length_le (Nat.le_refl _)]
theorem waysN_fall (n c : Nat) : (waysN b n c).Pairwise Lgt := enw_fall mirs_rise c _ n (Nat.le_refl _)
theorem waysN_mem {n c : Nat} {l : List Nat} : l ∈ waysN b n c ↔ WayB b n c n l := by
  unfold waysN
  rw [enw_mem mirs_rise c _ n (Nat.le_refl _)]
  constructor
  · intro h
    have hm : ∀ p ∈ l, p ∈ mirs b (n + 1) := fun p hp => by
      have := h.mem p hp
      rw [List.take_of_length_le (Nat.le_refl _)] at this
      exact this
    exact ⟨h.len, h.sum, fun d hd => by
      have := mirs_mem.mp (hm d hd)
      exact ⟨this.2.1, this.2.2, by omega⟩, h.fall⟩
  · intro h
    exact ⟨h.len, fun p hp => by
      rw [List.take_of_length_le (Nat.le_refl _)]
      obtain ⟨h1, h2, h3⟩ := h.mem p hp
      exact mirs_mem.mpr ⟨by omega, h1, h2⟩, h.fall, h.sum⟩
theorem waysN_place {n c k : Nat} {l : List Nat} (h : (waysN b n c)[k]? = some l) : plW (mirs b (n + 1)) l n (mirs b (n + 1)).length = k := enw_place mirs_rise c _ n (Nat.le_refl _) k l h
theorem wayB_isW {n c : Nat} {l : List Nat} (h : WayB b n c n l) : IsW (mirs b (n + 1)) n l := ⟨fun p hp => by
  obtain ⟨h1, h2, h3⟩ := h.mem p hp
  exact mirs_mem.mpr ⟨by omega, h1, h2⟩, h.fall, h.sum⟩
theorem way_two {n : Nat} {l : List Nat} : WayB b n 2 n l ↔ ∃ m, m ∈ twos b n ∧ l = [m, n - m] := by
  constructor
  · intro h
    obtain ⟨x, y, rfl⟩ : ∃ x y, l = [x, y] := by
      have := h.len
      match l, this with
      | [x, y], _ => exact ⟨x, y, rfl⟩
    obtain ⟨x0, x1, x2⟩ := h.mem x (by simp)
    obtain ⟨y0, y1, y2⟩ := h.mem y (by simp)
    have hs := h.sum
    have hs : x + (y + 0) = n := hs
    have hf := (List.pairwise_cons.mp h.fall).1 y (by simp)
    have e : n - x = y := by omega
    exact ⟨x, twos_mem.mpr ⟨by omega, x0, by omega, x1, by rw [e]; exact y1⟩, by rw [e]⟩
  · rintro ⟨m, hm, rfl⟩
    obtain ⟨h1, h2, h3, h4, h5⟩ := twos_mem.mp hm
    refine ⟨rfl, by simp only [List.sum_cons, List.sum_nil]; omega, fun d hd => ?_, ?_⟩
    · rcases List.mem_cons.mp hd with e | e
      · rw [e]
        exact ⟨h2, h4, by omega⟩
      · rw [List.mem_singleton.mp e]
        exact ⟨by omega, h5, by omega⟩
    · refine List.pairwise_cons.mpr ⟨fun y hy => ?_, List.pairwise_singleton ..⟩
      rw [List.mem_singleton.mp hy]
      omega
theorem waysN_two (n : Nat) : waysN b n 2 = (twos b n).map fun m => [m, n - m] := by
  refine lgt_uniq (waysN_fall n 2) ?_ fun l => ?_
  · refine List.pairwise_map.mpr ((fl_fall (p := pT b n) (n := n) (t := 0)).imp fun {x y} h => ⟨.inl h, fun e => ?_⟩)
    have := (List.cons.inj e).1
    omega
  · rw [waysN_mem, way_two, List.mem_map]
    constructor
    · rintro ⟨m, h1, h2⟩
      exact ⟨m, h1, h2.symm⟩
    · rintro ⟨m, h1, h2⟩
      exact ⟨m, h1, h2.symm⟩
theorem wn_two (n : Nat) : Wn (mirs b (n + 1)).reverse 2 n = (twos b n).length := by rw [← waysN_len, waysN_two, List.length_map]
theorem waysN_one (n : Nat) : waysN b n 1 = if 0 < n ∧ mir b n = true then [[n]] else [] := by
  refine lgt_uniq (waysN_fall n 1) (by split <;> simp) fun l => ?_
  rw [waysN_mem, way_one]
  by_cases c : 0 < n ∧ mir b n = true
  · rw [if_pos c, List.mem_singleton]
    exact ⟨fun h => h.1, fun h => ⟨h, c.1, c.2, Nat.le_refl _⟩⟩
  · rw [if_neg c]
    exact ⟨fun h => (c ⟨h.2.1, h.2.2.1⟩).elim, fun h => nomatch h⟩
theorem wn_one (n : Nat) : Wn (mirs b (n + 1)).reverse 1 n = if 0 < n ∧ mir b n = true then 1 else 0 := by
  rw [← waysN_len, waysN_one]
  split <;> rfl
theorem few_first {n : Nat} {l : List Nat} (h : Few b n l) : (waysN b n l.length)[0]? = some l := by
  have hm := waysN_mem.mpr h.1.1
  have hf := waysN_fall (b := b) n l.length
  cases e : waysN b n l.length with
  | nil =>
    rw [e] at hm
    cases hm
  | cons x r =>
    rw [e] at hm hf
    rcases List.mem_cons.mp hm with e2 | e2
    · rw [e2]
      rfl
    · have g := (List.pairwise_cons.mp hf).1 l e2
      have := h.1.2 x (waysN_mem.mp (by rw [e]; exact List.mem_cons_self))
      exact (g.2 (lle_anti this g.1)).elim
theorem few_fewer {n k : Nat} {l : List Nat} (h : Few b n l) (hk : k < l.length) : Wn (mirs b (n + 1)).reverse k n = 0 := by
  rw [← waysN_len]
  cases e : waysN b n k with
  | nil => rfl
  | cons x r => exact (h.2 k hk x (waysN_mem.mp (by rw [e]; exact List.mem_cons_self))).elim
theorem wn_more (hb : 2 ≤ b) (n m : Nat) : Wn (mirs b (n + 1)).reverse m n ≤ Wn (mirs b (n + 2)).reverse (m + 1) (n + 1) := by
  rw [← waysN_len, ← waysN_len (n := n + 1), ← List.length_map (f := fun l : List Nat => l ++ [1])]
  refine nodup_le ?_ fun l hl => ?_
  · refine List.pairwise_map.mpr ((waysN_fall n m).imp fun {x y} h e => h.2 (List.append_cancel_right e))
  · obtain ⟨r, hr, rfl⟩ := List.mem_map.mp hl
    have h := waysN_mem.mp hr
    refine waysN_mem.mpr ⟨by rw [List.length_append, h.len]; rfl, by rw [List.sum_append, h.sum]; rfl, fun d hd => ?_, List.pairwise_append.mpr ⟨h.fall, List.pairwise_singleton .., fun x hx y hy => ?_⟩⟩
    · rcases List.mem_append.mp hd with e | e
      · obtain ⟨h1, h2, h3⟩ := h.mem d e
        exact ⟨h1, h2, by omega⟩
      · rw [List.mem_singleton.mp e]
        exact ⟨Nat.one_pos, mir_small hb (by omega), by omega⟩
    · rw [List.mem_singleton.mp hy]
      exact (h.mem x hx).1
/-! all ways are those by none, one, two .. -/
def smW (f : Nat → Nat) : Nat → Nat
  | 0 => 0
  | k + 1 => smW f k + f k
theorem smW_shift {f : Nat → Nat} : ∀ {k : Nat}, smW f (k + 1) = f 0 + smW (fun m => f (m + 1)) k
  | 0 => by
    show 0 + f 0 = f 0 + 0
    omega
  | k + 1 => by
    show smW f (k + 1) + f (k + 1) = f 0 + (smW (fun m => f (m + 1)) k + f (k + 1))
    rw [smW_shift (k := k)]
    omega
theorem smW_add {f g : Nat → Nat} : ∀ {k : Nat}, smW (fun m => f m + g m) k = smW f k + smW g k
  | 0 => rfl
  | k + 1 => by
    show smW (fun m => f m + g m) k + (f k + g k) = smW f k + f k + (smW g k + g k)
    rw [smW_add (k := k)]
    omega
theorem smW_zero : ∀ {k : Nat}, smW (fun _ => 0) k = 0
  | 0 => rfl
  | k + 1 => smW_zero (k := k)
theorem sm_An : ∀ {ps : List Nat}, (∀ p ∈ ps, 0 < p) → ∀ {n k : Nat}, n < k → smW (fun c => Wn ps c n) k = An ps n
  | [], _, n, k, h => by
    obtain ⟨k, rfl⟩ : ∃ j, k = j + 1 := ⟨k - 1, by omega⟩
    rw [smW_shift]
    have : (fun m => Wn [] (m + 1) n) = fun _ => 0 := by
      funext m
      show (if m + 1 = 0 ∧ n = 0 then 1 else 0) = 0
      rw [if_neg (by omega)]
    rw [this, smW_zero]
    show (if 0 = 0 ∧ n = 0 then 1 else 0) + 0 = if n = 0 then 1 else 0
    simp
  | p :: ps, hp, n, k, h => by
    have p0 := hp p List.mem_cons_self
    have ih := fun {n k : Nat} => sm_An (ps := ps) (fun q hq => hp q (List.mem_cons_of_mem _ hq)) (n := n) (k := k)
    induction n using Nat.strongRecOn generalizing k with
    | _ n rec =>
      obtain ⟨k, rfl⟩ : ∃ j, k = j + 1 := ⟨k - 1, by omega⟩
      rw [smW_shift]
      have e : (fun m => Wn (p :: ps) (m + 1) n) = fun m => Wn ps (m + 1) n + if p ≤ n then Wn (p :: ps) m (n - p) else 0 := rfl
      rw [e, smW_add]
      have e2 : Wn (p :: ps) 0 n + (smW (fun m => Wn ps (m + 1) n) k + smW (fun m => if p ≤ n then Wn (p :: ps) m (n - p) else 0) k) = smW (fun c => Wn ps c n) (k + 1) + smW (fun m => if p ≤ n then Wn (p :: ps) m (n - p) else 0) k := by
        rw [smW_shift]
        show Wn ps 0 n + _ = _
        omega
      rw [e2, ih h]
      show _ = Ap (An ps) p n
      rw [ap_eq p0]
      by_cases c : p ≤ n
      · simp only [if_pos c]
        rw [rec (n - p) (by omega) (k := k) (by omega)]
        rfl
      · simp only [if_neg c]
        rw [smW_zero]
theorem an_sub {ps : List Nat} {p n : Nat} (hp : 0 < p) : An ps n ≤ An (p :: ps) n := by
  show _ ≤ Ap (An ps) p n
  rw [ap_eq hp]
  omega
theorem an_more (hb : 2 ≤ b) (n : Nat) : An (mirs b (n + 1)).reverse n ≤ An (mirs b (n + 2)).reverse (n + 1) := by
  have h1 : ∀ p ∈ mirs b (n + 1), 0 < p := fun p hp => (mirs_mem.mp hp).2.1
  have h2 : ∀ p ∈ mirs b (n + 2), 0 < p := fun p hp => (mirs_mem.mp hp).2.1
  have m1 : 1 ∈ mirs b (n + 2) := mirs_mem.mpr ⟨by omega, Nat.one_pos, mir_small hb (by omega)⟩
  rw [an_rev h1, an_rev h2]
  have a1 : An (mirs b (n + 1)) n ≤ An (mirs b (n + 2)) n := by
    rw [show mirs b (n + 2) = _ from mirs_succ (b := b) (n := n + 1)]
    split
    · rw [an_perm (List.perm_append_comm (l₁ := mirs b (n + 1)) (l₂ := [n + 1])) (fun p hp => by
        rcases List.mem_append.mp hp with e | e
        · exact h1 p e
        · rw [List.mem_singleton.mp e]
          omega)]
      exact an_sub (by omega)
    · rw [List.append_nil]
      exact Nat.le_refl _
  refine Nat.le_trans a1 ?_
  have pm := List.perm_cons_erase m1
  rw [an_perm pm h2, an_perm pm h2 (n + 1)]
  generalize (mirs b (n + 2)).erase 1 = r
  show _ ≤ Ap (An r) 1 (n + 1)
  rw [ap_eq Nat.one_pos, if_pos (by omega)]
  exact Nat.le_add_left _ _
end Mi

namespace Mi
open PySem PySem.Spec PyProof.Rows L2
def t_some_by_two (K : PySem.W.Frag) (C : Str → Addr) (E : XK) : TS :=
  (tSeq (tAsg (tLst tNil) (gName 3))
    (tSeq (tAsg (tGo (sp_at_most K C) (fun _ => E0) (tCons (tCB rMax2 (tCons (tC (.int 0)) (tCons (tOp (rI0 fun i j => .int (i - j)) (tVar 0) (tC (.int 1))) tNil))) (tCons (tVar 1) tNil))) (gName 4))
    (tSeq (tWhile (tAnd (tTest (tOp (rI0 fun i j => .bl (decide (j ≤ i))) (tOp (rI CMul fun i j => .int (i * j)) (tC (.int 2)) (tVar 4)) (tVar 0))) (tAnd (tTest (tOp (rI0 fun i j => .bl (decide (j < i))) (tVar 4) (tC (.int 0)))) (tTest (tOp (rI0 fun i j => .bl (decide (i < j))) (tCB (rLenL K) (tCons (tVar 3) tNil)) (tVar 2))))) (Evl.tCut (tIfS (tB (tGo (sp_is_mirrored K C) (fun _ => E0) (tCons (tOp (rI0 fun i j => .int (i - j)) (tVar 0) (tVar 4)) (tCons (tVar 1) tNil)))) (tDrop (tBM K "list" rAppend (tVar 3) (tCons (tLst (tCons (tVar 4) (tCons (tOp (rI0 fun i j => .int (i - j)) (tVar 0) (tVar 4)) tNil))) tNil))) tNext)
    (tAsg (tGo (sp_at_most K C) (fun _ => E0) (tCons (tOp (rI0 fun i j => .int (i - j)) (tVar 4) (tC (.int 1))) (tCons (tVar 1) tNil))) (gName 4))))
    (tRet (tVar 3)))))
def t_by_two (K : PySem.W.Frag) (C : Str → Addr) (E : XK) : TS :=
  (tSeq (tDrop (tGo (sp_need_base K C) (fun _ => E) (tCons (tVar 1) tNil)))
    (tRet (tGo (sp_some_by_two K C) (fun _ => E0) (tCons (tVar 0) (tCons (tVar 1) (tCons (tVar 0) tNil))))))
def t_many_by_two (K : PySem.W.Frag) (C : Str → Addr) (E : XK) : TS :=
  (tRet (tCB (rLenL K) (tCons (tGo (sp_by_two K C) (fun _ => E) (tCons (tVar 0) (tCons (tVar 1) tNil))) tNil)))
def t_first_by_two (K : PySem.W.Frag) (C : Str → Addr) (E : XK) : TS :=
  (tSeq (tDrop (tGo (sp_need_base K C) (fun _ => E) (tCons (tVar 1) tNil)))
    (tSeq (tAsg (tGo (sp_some_by_two K C) (fun _ => E0) (tCons (tVar 0) (tCons (tVar 1) (tCons (tC (.int 1)) tNil)))) (gName 2))
    (tSeq (tIfS (tTest (tOp (rEqD K) (tVar 2) (tLst tNil))) (tRet (tC .non)) tNext)
    (tRet (tOp (rIxL K) (tVar 2) (tC (.int 0)))))))
end Mi

namespace Mi
open PySem PySem.Spec PyProof.Rows L2
def t_a_few (K : PySem.W.Frag) (C : Str → Addr) (E : XK) : TS :=
  (tSeq (tDrop (tGo (sp_need_base K C) (fun _ => E) (tCons (tVar 1) tNil)))
    (tSeq (tAsg (tLst tNil) (gName 2))
    (tSeq (tWhile (tTest (tOp (rI0 fun i j => .bl (decide (j < i))) (tVar 0) (tC (.int 0)))) (tSeq (tDrop (tBM K "list" rAppend (tVar 2) (tCons (tGo (sp_at_most K C) (fun _ => E) (tCons (tVar 0) (tCons (tVar 1) tNil))) tNil)))
    (tAug 0 (tOp (rIxL K) (tVar 2) (tUn (rU fun i => .int (-i)) (tC (.int 1)))) (ipI fun i j => i - j))))
    (tRet (tVar 2)))))
end Mi

namespace Mi
open PySem PySem.Spec PyProof.Rows L2
local macro_rules
  | `(tactic| walk_at "w") => `(tactic| try simp only [a_seq, a_next, a_tru, tru_bl, b_isB, b_notB, isi_ii, isi_ib, isi_bi, isi_bb, a_asg, a_name, a_var, a_c, a_op, a_un, a_rI, a_rI0, a_rU, a_ret, a_retN, a_ifS, a_drop, a_aug, a_ipI, a_test, a_B, a_and, a_or, a_not, a_andV, a_orV, a_notV, a_ifE, a_nil, a_cons, a_lst, a_tup, a_cb, a_go, a_bm, a_bm0, a_sl, a_po, a_pn,
      a_gsub, a_gnil, a_gcons, a_gtup, a_chain, a_eq, a_ne, a_yes, a_revL, a_slL, a_ixL, a_ixT, a_append, a_setL, a_cat, a_for, a_lc, a_iL, a_iT, a_iR1, a_iR2, a_iE, a_iZ, a_iS, b_lenL, b_int1b, b_int1i, b_listOf, b_max2, b_min2, b_sum, b_rep, b_eqLI0, b_eqLI1, b_isN, b_notN, b_listEnum, b_raise0,
      List.getElem?_cons_zero, List.getElem?_cons_succ, List.set_cons_zero, List.set_cons_succ, Option.some.injEq, V.int.injEq, V.ref.injEq, V.bl.injEq, V.str.injEq, List.cons.injEq, and_true, true_and, exists_eq_left', exists_eq_left, exists_eq_right, exists_eq_right', exists_and_left, exists_eq', exists_eq, decide_eq_true_eq, scal_ii, scal_bb, scal_ss, wipe, ↓reduceIte, reduceCtorEq,
      Bool.not_eq_true', Bool.false_eq_true, not_false_eq_true, not_true_eq_false, if_true, if_false, decide_eq_false_iff_not, List.length_cons, List.length_nil, Nat.zero_add, CDiv, CMul, CPow])
local macro_rules
  | `(tactic| walk_at "z") => `(tactic| first | omega | (rw [sizeLine_eq]; simp only [List.length_append, List.length_map, List.length_cons, List.length_nil, List.length_reverse, nints]; omega) | decide | (simp only [List.length_append, List.length_map, List.length_cons, List.length_nil]; omega))
section
variable {K : PySem.W.Frag} {C : Str → Addr} {H B : Hp} {Q : VK} {E : XK} {F : List (Addr × HO)} {vs : List V}
theorem rd_a_few (h : sp_a_few K C vs H Q E) : t_a_few K C E (fin Q) (start ["number", "base", "found"] vs) H := by
  obtain ⟨y, x, rfl, nb⟩ := h
  show t_a_few K C E (fin Q) [some y, some x, none] H
  unfold t_a_few
  walk_at "w"
  refine nb.need fun b e hb hb2 ⟨n, e2, hn, q⟩ => ?_
  subst e
  subst e2
  clear nb
  have hn' : n < lim := by have := lim1_lim hn; omega
  refine ⟨by decide, fun p hp => ?_⟩
  have L0 := (Led.refl H).new (o := .lst []) hp
  generalize upd _ _ _ = H0 at L0 ⊢
  have hl := fews_lim hb hn'
  refine whl (fun m σ H1 => ∃ l : List Nat, m ≤ n ∧ fews b n = l ++ fews b m ∧ Led H [(p, .lst (nints l))] H1 ∧ σ = [some (.int m), some (.int b), some (.ref p)]) n ⟨[], Nat.le_refl _, rfl, L0, rfl⟩ ?_
  rintro N hN m σ H1 ⟨l, h1, h2, L1, rfl⟩
  walk_at "w"
  by_cases c : m = 0
  · subst c
    rw [if_neg (by decide)]
    rw [fews_zero, List.append_nil] at h2
    rw [← h2] at L1
    exact q _ _ L1
  · rw [if_pos (by omega)]
    refine whb ?_
    walk_at "w"
    have hlen : l.length ≤ 700 := by
      have := congrArg List.length h2
      rw [List.length_append] at this
      omega
    refine ⟨.inl ⟨rfl, _, L1.sqI 0 rfl⟩, use_low L1 hb hb2 (by omega) fun H2 L2 => ⟨_, L2.get 0 rfl, by rw [nints_len, sizeLine_eq]; omega, ?_⟩⟩
    have L3 := L2.put (o' := .lst (nints l ++ [V.int (lowM b m : Nat)])) 0 rfl
    generalize upd _ _ _ = H3 at L3 ⊢
    have e3 : nints l ++ [V.int (lowM b m : Nat)] = nints (l ++ [lowM b m]) := by simp [nints]
    rw [e3] at L3
    have hp := low_pos (n := m) hb (by omega)
    have hq := low_le (n := m) hb
    refine ⟨_, L3.sqI 0 rfl, V.int (lowM b m : Nat), ?_, _, rfl, m - lowM b m, by omega, hN _ _ _ ⟨l ++ [lowM b m], by omega, ?_, L3, ?_⟩⟩
    · rw [← e3]
      exact atI_last _ _
    · rw [List.append_assoc, h2, fews_pos hb (show 0 < m by omega)]
      rfl
    · rw [Int.natCast_sub hq]
end
end Mi

namespace Mi
open PySem PySem.Spec PyProof.Rows L2
local macro_rules
  | `(tactic| walk_at "w") => `(tactic| try simp only [a_seq, a_next, a_tru, tru_bl, b_isB, b_notB, b_mulS, b_addS, b_intS, b_lstRg, b_rg1, b_rg2, a_to, isi_ii, isi_ib, isi_bi, isi_bb, a_asg, a_name, a_var, a_c, a_op, a_un, a_rI, a_rI0, a_rU, a_ret, a_retN, a_ifS, a_drop, a_aug, a_ipI, a_test, a_B, a_and, a_or, a_not, a_andV, a_orV, a_notV, a_ifE, a_nil, a_cons, a_lst, a_tup, a_cb, a_go, a_bm, a_bm0, a_sl, a_po, a_pn,
      a_gsub, a_gnil, a_gcons, a_gtup, a_chain, a_eq, a_ne, a_yes, a_revL, a_slL, a_ixL, a_ixT, a_append, a_setL, a_cat, a_for, a_lc, a_iL, a_iT, a_iR1, a_iR2, a_iE, a_iZ, a_iS, b_lenL, b_int1b, b_int1i, b_listOf, b_max2, b_min2, b_sum, b_rep, b_eqLI0, b_eqLI1, b_isN, b_notN, b_listEnum, b_raise0,
      List.getElem?_cons_zero, List.getElem?_cons_succ, List.set_cons_zero, List.set_cons_succ, Option.some.injEq, V.int.injEq, V.ref.injEq, V.bl.injEq, V.str.injEq, List.cons.injEq, and_true, true_and, exists_eq_left', exists_eq_left, exists_eq_right, exists_eq_right', exists_and_left, exists_eq', exists_eq, decide_eq_true_eq, scal_ii, scal_bb, scal_ss, wipe, ↓reduceIte, reduceCtorEq,
      Bool.not_eq_true', Bool.false_eq_true, not_false_eq_true, not_true_eq_false, if_true, if_false, decide_eq_false_iff_not, List.length_cons, List.length_nil, Nat.zero_add, CDiv, CMul, CPow])
local macro_rules
  | `(tactic| walk_at "z") => `(tactic| first | omega | (rw [sizeLine_eq]; simp only [List.length_append, List.length_map, List.length_cons, List.length_nil, List.length_reverse, nints]; omega) | decide | (simp only [List.length_append, List.length_map, List.length_cons, List.length_nil]; omega))
section
variable {K : PySem.W.Frag} {C : Str → Addr} {H B : Hp} {Q : VK} {E : XK} {F : List (Addr × HO)} {vs : List V}
theorem rd_some_by_two (h : sp_some_by_two K C vs H Q E) : t_some_by_two K C E (fin Q) (start ["number", "base", "most", "found", "one"] vs) H := by
  obtain ⟨n, b, k, rfl, hb, hb2, hn, q⟩ := h
  show t_some_by_two K C E (fin Q) [some (.int n), some (.int b), some (.int k), none, none] H
  unfold t_some_by_two
  have hn1 : n < lim1 := Nat.lt_of_le_of_lt hn (by decide +kernel)
  have hn2 : n < lim := Nat.lt_of_le_of_lt hn (by decide +kernel)
  walk_at "w"
  refine ⟨by decide, fun p hp => ?_⟩
  have L0 := (Led.refl H).new (o := .lst []) hp
  generalize upd _ _ _ = H0 at L0 ⊢
  have em : (if (n : Int) - 1 > 0 then (n : Int) - 1 else 0) = ((n - 1 : Nat) : Int) := by
    by_cases c : (n : Int) - 1 > 0
    · rw [if_pos c]
      omega
    · rw [if_neg c]
      omega
  rw [em]
  refine use_low L0 hb hb2 (by omega) fun H1 L1 => ?_
  walk_at "w"
  refine whl (fun m σ H' => ∃ (one : Nat) (as : List Addr), m = one ∧ mir b one = true ∧ (0 < one → one < n) ∧ as.length = (fl (pT b n) n one).length ∧ as.length ≤ k ∧ Led H ((p, .lst (as.map V.ref)) :: prF as (fl (pT b n) n one) n) H' ∧ σ = [some (.int n), some (.int b), some (.int k), some (.ref p), some (.int one)]) (lowM b (n - 1)) ⟨lowM b (n - 1), [], rfl, low_mir hb, fun z => ?_, ?_, Nat.zero_le _, ?_, rfl⟩ ?_
  · have := low_le (n := n - 1) hb
    omega
  · rw [twos_start hb]
  · rw [twos_start hb]
    exact L1
  rintro N hN m σ H2 ⟨one, as, em2, hm, ho, hal, hak, L2, rfl⟩
  have em2 := em2.symm
  subst em2
  have htl := fl_len (p := pT b n) n one
  walk_at "w"
  have hend : (2 * one < n ∨ one = 0) → Q (.ref p) H2 := by
    intro z
    have e := twos_end (b := b) z
    rw [e] at hal L2
    have e2 : (twos b n).take k = twos b n := List.take_of_length_le (by omega)
    rw [← e2] at hal L2
    exact q _ _ _ hal L2
  refine ⟨.inl (by decide), ?_⟩
  by_cases c1 : n ≤ 2 * one
  · rw [if_pos (by omega)]
    by_cases c2 : 0 < one
    · rw [if_pos (by omega)]
      refine ⟨_, .inl (L2.sqI 0 rfl), ?_⟩
      by_cases c3 : as.length < k
      · rw [if_pos (by rw [List.length_map]; omega)]
        have hon := ho c2
        refine whb ?_
        have turn := twos_turn hb c1 c2 hon hm
        refine cut_ (fun σ H' => ∃ as, as.length = (fl (pT b n) n (lowM b (one - 1))).length ∧ as.length ≤ k ∧ Led H ((p, .lst (as.map V.ref)) :: prF as (fl (pT b n) n (lowM b (one - 1))) n) H' ∧ σ = [some (.int n), some (.int b), some (.int k), some (.ref p), some (.int one)]) ?_ ?_
        · intro M hM
          walk_at "w"
          rw [show (n : Int) - one = ((n - one : Nat) : Int) by omega]
          refine use_is L2 hb hb2 (by omega) fun H3 L3 => ⟨_, rfl, ?_⟩
          by_cases c4 : mir b (n - one) = true
          · rw [if_pos c4]
            rw [if_pos c4] at turn
            refine ⟨.inl ⟨rfl, _, L3.sqI 0 rfl⟩, by decide, fun a ha => ?_⟩
            have L4 := L3.new (o := .lst [V.int (one : Nat), V.int ((n - one : Nat) : Int)]) ha
            generalize upd _ _ _ = H4 at L4 ⊢
            refine ⟨_, L4.get 1 rfl, by rw [List.length_map, sizeLine_eq]; omega, ?_⟩
            have L5 := L4.put (o' := .lst (as.map V.ref ++ [V.ref a])) 1 rfl
            refine hM _ _ ⟨as ++ [a], ?_, ?_, ?_, rfl⟩
            · rw [turn, List.length_append, List.length_append, hal]
              rfl
            · rw [List.length_append]
              simp only [List.length_cons, List.length_nil]
              omega
            · rw [turn, prF_snoc hal, List.map_append]
              refine L5.perm ?_
              rw [List.set_cons_succ, List.set_cons_zero]
              refine (List.Perm.swap _ _ _).trans (List.Perm.cons _ ?_)
              exact (List.perm_append_comm (l₁ := [_]) (l₂ := prF as (fl (pT b n) n one) n))
          · rw [if_neg c4]
            rw [if_neg c4, List.append_nil] at turn
            rw [← turn] at hal L3
            exact hM _ _ ⟨as, hal, hak, L3, rfl⟩
        · rintro σ H3 ⟨as2, hal2, hak2, L3, rfl⟩
          walk_at "w"
          rw [show (one : Int) - 1 = ((one - 1 : Nat) : Int) by omega]
          refine use_low L3 hb hb2 (by omega) fun H4 L4 => ?_
          have hlo := low_le (n := one - 1) hb
          exact ⟨lowM b (one - 1), by omega, hN _ _ _ ⟨lowM b (one - 1), as2, rfl, low_mir hb, fun _ => by omega, hal2, hak2, L4, rfl⟩⟩
      · rw [if_neg (by rw [List.length_map]; omega)]
        obtain ⟨r, er⟩ := fl_pre (p := pT b n) (Nat.zero_le one) n
        have e2 : (twos b n).take k = fl (pT b n) n one := by
          unfold twos
          rw [er]
          exact List.take_left' (by omega)
        rw [← e2] at hal L2
        exact q _ _ _ hal L2
    · rw [if_neg (by omega)]
      exact hend (Or.inr (by omega))
  · rw [if_neg (by omega)]
    exact hend (Or.inl (by omega))
theorem use_some2 {n b k : Nat} (L : Led B F H) (hb : 2 ≤ b) (hb2 : b ≤ 36) (hn : n ≤ 10000000) (q : ∀ p as H', as.length = ((twos b n).take k).length → Led B (((p, .lst (as.map V.ref)) :: prF as ((twos b n).take k) n) ++ F) H' → Q (.ref p) H') : sp_some_by_two K C [.int n, .int b, .int k] H Q E :=
  ⟨n, b, k, rfl, hb, hb2, hn, fun p as H' h M => q p as H' h (L.step M)⟩
theorem rd_by_two (h : sp_by_two K C vs H Q E) : t_by_two K C E (fin Q) (start ["number", "base"] vs) H := by
  obtain ⟨y, x, rfl, nb⟩ := h
  show t_by_two K C E (fin Q) [some y, some x] H
  unfold t_by_two
  walk_at "w"
  refine nb.need fun b e hb hb2 ⟨n, e2, hn, q⟩ => ?_
  subst e
  subst e2
  refine use_some2 (Led.refl H) hb hb2 hn fun p as H' hl L => ?_
  rw [List.append_nil] at L
  rw [List.take_of_length_le twos_len] at hl L
  exact q p as H' hl L
theorem use_two {n b : Nat} (L : Led B F H) (hb : 2 ≤ b) (hb2 : b ≤ 36) (hn : n ≤ 10000000) (q : ∀ p as H', as.length = (twos b n).length → Led B (((p, .lst (as.map V.ref)) :: prF as (twos b n) n) ++ F) H' → Q (.ref p) H') : sp_by_two K C [.int n, .int b] H Q E :=
  ⟨_, _, rfl, NB.good hb hb2 ⟨n, rfl, hn, fun p as H' h M => q p as H' h (L.step M)⟩⟩
theorem rd_many_by_two (h : sp_many_by_two K C vs H Q E) : t_many_by_two K C E (fin Q) (start ["number", "base"] vs) H := by
  obtain ⟨y, x, rfl, hx, r, nb⟩ := h
  show t_many_by_two K C E (fin Q) [some y, some x] H
  unfold t_many_by_two
  walk_at "w"
  refine ⟨y, x, rfl, hx, r, fun b e hb hb2 => ?_⟩
  obtain ⟨n, e2, hn, q⟩ := nb b e hb hb2
  refine ⟨n, e2, hn, fun p as H' hl L => ?_⟩
  refine ⟨p, rfl, _, .inl (L.sqI 0 rfl), ?_⟩
  rw [List.length_map, hl]
  exact q H' L.none
theorem use_many2 {n b : Nat} (L : Led B F H) (hb : 2 ≤ b) (hb2 : b ≤ 36) (hn : n ≤ 10000000) (q : ∀ H', Led B F H' → Q (.int ((twos b n).length : Nat)) H') : sp_many_by_two K C [.int n, .int b] H Q E :=
  ⟨_, _, rfl, NB.good hb hb2 ⟨n, rfl, hn, fun H' M => q H' (L.step0 M)⟩⟩
theorem rd_first_by_two (h : sp_first_by_two K C vs H Q E) : t_first_by_two K C E (fin Q) (start ["number", "base", "found"] vs) H := by
  obtain ⟨y, x, rfl, nb⟩ := h
  show t_first_by_two K C E (fin Q) [some y, some x, none] H
  unfold t_first_by_two
  walk_at "w"
  refine nb.need fun b e hb hb2 ⟨n, e2, hn, q0, q1⟩ => ?_
  subst e
  subst e2
  refine use_some2 (k := 1) (Led.refl H) hb hb2 hn fun p as H' hl L => ?_
  rw [List.append_nil] at L
  walk_at "w"
  refine ⟨by decide, fun p2 hp2 => ?_⟩
  have L2 := L.new (o := .lst []) hp2
  generalize upd _ _ _ = H2 at L2 ⊢
  cases et : twos b n with
  | nil =>
    rw [et] at hl L2
    have ea : as = [] := List.length_eq_zero_iff.mp hl
    subst ea
    refine ⟨.list [], .list [], .lst (L2.sqI 1 rfl) .nil, .lst (L2.sqI 0 rfl) .nil, rfl, rfl, ?_⟩
    exact ⟨true, rfl, by rw [if_pos rfl]; exact q0 et _ L2.none⟩
  | cons m r =>
    rw [et] at hl L2
    obtain ⟨a, ea⟩ : ∃ a, as = [a] := by
      cases as with
      | nil => cases hl
      | cons a as =>
        cases as with
        | nil => exact ⟨a, rfl⟩
        | cons _ _ => simp at hl
    subst ea
    have L2 : Led H [(p2, .lst []), (p, .lst [.ref a]), (a, .lst [.int (m : Nat), .int ((n - m : Nat) : Int)])] H2 := L2
    refine ⟨.list [.list [.int m, .int ((n - m : Nat) : Int)]], .list [], .lst (L2.sqI 1 rfl) (.cons (.lst (L2.sqI 2 rfl) (.cons (.int _) (.cons (.int _) .nil))) .nil), .lst (L2.sqI 0 rfl) .nil, rfl, rfl, ?_⟩
    refine ⟨false, rfl, ?_⟩
    rw [if_neg (fun z => nomatch z)]
    exact ⟨_, L2.sqI 1 rfl, .ref a, rfl, q1 m r et a _ (L2.one 2 rfl)⟩
theorem use_first2 {n b : Nat} (L : Led B F H) (hb : 2 ≤ b) (hb2 : b ≤ 36) (hn : n ≤ 10000000) (q0 : twos b n = [] → ∀ H', Led B F H' → Q .non H')
    (q1 : ∀ m r, twos b n = m :: r → ∀ p H', Led B ((p, .lst [.int (m : Nat), .int ((n - m : Nat) : Int)]) :: F) H' → Q (.ref p) H') : sp_first_by_two K C [.int n, .int b] H Q E :=
  ⟨_, _, rfl, NB.good hb hb2 ⟨n, rfl, hn, fun e H' M => q0 e H' (L.step0 M), fun m r e p H' M => q1 m r e p H' (L.step M)⟩⟩
end
end Mi

/-! sorted(set(xs)) of any number of whole numbers -/
namespace Mi
open PySem PySem.Spec PyProof.Rows L2
section
variable {P : Program} {w : World} {A : Around} {E : Value → Shared → Prop} {s : Shared} {a : Addr}
theorem sorted_setN {S : Int → Bool} {n : Nat} {Q : Value → Shared → Prop} (R : SetR w s.heap a S n) (hh : A.handled = none) (hn4 : n ≤ 4000)
    (hQ : ∀ s' p (out : Array Value) (c : Nat) (ns : List Int), (∀ b o, s.heap.get? b = some o → s'.heap.get? b = some o) → s'.gens = s.gens → s'.os = s.os → s.heap.objs.size ≤ p →
      s'.heap.get? p = some (seqObj "list" out c) → IntsAre out.toList ns → ns.Pairwise (· < ·) → (∀ k, k ∈ ns ↔ S k = true) → ns.length = n → Q (.ref p) s') :
    wpAny (model P w) A (call (.builtin "sorted") [.ref a]) Q E s := by
  obtain ⟨o, es, ep, t, ho, hex, hd, g, nd, hm, hb, hf, hn, hr, hl⟩ := R
  refine Calls.call_function_entry kind_sorted plain_sorted entry_sorted (args_sorted1 _) ?_
  unfold Builtin.«sorted»
  refine wpAny_bind (m := checkCount "sorted" 1 1 _) (wpAny_pure ?_)
  refine wpAny_bind (collect_set (A := A.in1) hh ⟨o, ho, hex.1, hd⟩ hf hb hr hl fun s1 vs k1 hz g1 o1 pm => ?_)
  have hvl : vs.length = n := by rw [pm.length_eq, List.length_map, Array.length_toList]; exact hn
  have hI : IntsAre vs (vs.map Builtin.Re.reRawOf) := ints_of vs fun v hv => by
    obtain ⟨e, he, q⟩ := List.mem_map.mp (pm.mem_iff.mp hv)
    obtain ⟨k, tk, h1, _⟩ := g e he
    exact ⟨k, tk, by rw [← q]; exact h1⟩
  have pk : (vs.map Builtin.Re.reRawOf).Perm (es.toList.map keyOf) := by
    have q := pm.map Builtin.Re.reRawOf
    rw [List.map_map] at q
    exact q
  have hsz : vs.length ≤ sizeLine := by rw [hvl, sizeLine_eq]; omega
  refine wpAny_bind (wpAny_newList ?_ hsz)
  have hoL : (s1.heap.push (seqObj "list" vs.toArray 0)).get? s1.heap.objs.size = some (seqObj "list" vs.toArray 0) := Heap.get?_push_size _ rfl
  refine wpAny_bind (wpAny_holding (wpAny_call_entry slot_list_sort ⟨_, hoL, rfl⟩ entry_list_sort
    (SrtO.list_sort_ord SrtO.swo_int hoL hsz (fun h2 => SrtO.ints_sortable hI h2) fun out h1 h2 => ⟨_, rfl, ?_⟩) (args_list_sort _)))
  obtain ⟨a1, a2, a3⟩ := SrtO.ints_out hI h1 h2
  obtain ⟨c, hc⟩ := sortedHeap_at (vs := vs) (out := out.toArray) hoL
  have pn : (out.map SrtO.iv).Perm (es.toList.map keyOf) := a2.trans pk
  refine wpAny_pure ⟨_, rfl, hQ _ s1.heap.objs.size out.toArray c (out.map SrtO.iv) (fun b u e => ?_) g1 o1 hz hc a1 (lt_of_le_nodup _ a3 (pn.nodup_iff.mpr nd)) (fun k => by rw [pn.mem_iff, ← hm k]) ?_⟩
  · have q := k1 b u e
    have hlt := Heap.lt_size q
    show (sortedHeap (s1.heap.push (seqObj "list" vs.toArray 0)) s1.heap.objs.size vs out.toArray).get? b = some u
    rw [sortedHeap_old (Nat.ne_of_lt hlt) (by rw [size_push']; exact Nat.lt_succ_of_lt hlt)]
    exact Heap.get?_push_of_some _ q
  · rw [pn.length_eq, List.length_map, Array.length_toList]; exact hn
end
section
variable {X : Cx}
/-- sorted(a set of whole numbers) -/
def rSortedSetN (w : World) : List V → Hp → VK → Prop := fun vs H Q => ∃ (a : Addr) (S : Int → Bool) (n : Nat), vs = [V.ref a] ∧ H a = some (SetO w a S n) ∧ n ≤ 4000 ∧
  ∀ (ns : List Int) (p : Addr), ns.Pairwise (· < ·) → (∀ k : Int, k ∈ ns ↔ S k = true) → ns.length = n → H p = none → Q (.ref p) (upd H p (.lst (ns.map V.int)))
theorem cr_sortedSetN (hc : X.calm = true) : CallR X (.builtin "sorted") (rSortedSetN X.w) := by
  intro pins s σ H vs us Q I r h
  obtain ⟨a, S, n, rfl, ha, h64, q⟩ := h
  have R := setO_get I ha
  rw [Vals.ref1 r]
  refine sorted_setN R (I.ok.hd hc) h64 fun s' p out c ns k g o hp hg hi hs hm hl => ?_
  have hlen : (ns.map V.int).length ≤ sizeLine := by rw [List.length_map, hl, sizeLine_eq]; omega
  have hn : H p = none := I.hok.fresh hp
  have J : Inv X pins σ (upd H p (.lst (ns.map V.int))) { s with heap := s'.heap, gens := s'.gens, drawn := s'.drawn, toks := s'.toks } :=
    I.call (ch := []) (Un.laid k hp hn) (I.hok.laid k hp ⟨hlen, out.toList, c, vals_of_ints hi, hg⟩) (by rw [g]; exact I.bare) (fun _ z => nomatch z)
  have e : s' = { s with heap := s'.heap, gens := s'.gens, drawn := s'.drawn, toks := s'.toks } := by
    cases s'
    cases s
    cases o
    rfl
  rw [e]
  exact ⟨.ref p, _, J, rfl, q ns p hs hm hl hn⟩
def rSetIN (K : PySem.W.Frag) (w : World) : List V → Hp → VK → Prop := fun vs H Q => ∃ (a : Addr) (ns : List Int), vs = [.ref a] ∧ SqL K H a (ns.map V.int) ∧ ns.length ≤ 4000 ∧
  ∀ p c, H p = none → c ≤ ns.length → Q (.ref p) (upd H p (SetO w p (fun j => decide (j ∈ ns)) c))
theorem cr_setIN (hc : X.calm = true) : CallR X (.type "set") (rSetIN X.K X.w) := by
  intro pins s σ H vs us Q I r h
  obtain ⟨a, ns, rfl, hS, hn, q⟩ := h
  rw [Vals.ref1 r]
  obtain ⟨its, rv, pl, hz⟩ := I.list hS
  refine set_of_l (I.ok.hd hc) pl.isList (ns := ns) (by simpa using rv.ints) (by unfold scanBound; omega) fun h' tk c R1 hcn k => ?_
  exact ⟨.ref _, _, I.laid (t' := tk) k (Nat.le_refl _) (setO_new R1), rfl, q _ c (I.hok.fresh (Nat.le_refl _)) hcn⟩
/-- sorted(set(xs)), of at most 4000 -/
def tSortSetN (K : PySem.W.Frag) (te : TE) : TE := fun σ H Q => te σ H fun x H1 => ∃ (a : Addr) (ns : List Int), x = .ref a ∧ SqL K H1 a (ns.map V.int) ∧ ns.length ≤ 4000 ∧
  ∀ (ms : List Int) (S p : Addr) (o : HO), ms.Pairwise (· < ·) → (∀ k : Int, k ∈ ms ↔ k ∈ ns) → ms.length ≤ ns.length → H1 S = none → upd H1 S o p = none → Q (.ref p) (upd (upd H1 S o) p (.lst (ms.map V.int)))
theorem pe_sortSetN {a : Expr} {ta : TE} {p p2 pos pos2 : Pos} (hc : X.calm = true) (hg : Gl X "sorted") (hm : X.mg "sorted" = none) (hg2 : Gl X "set") (hm2 : X.mg "set" = none) (ha : PE X a ta)
    (na : starEach [a] X.env = (false, eval a X.env) :: starEach [] X.env := by rfl) : PE X (.Call (.Name "sorted" p) [.Call (.Name "set" p2) [a] [] pos2] [] pos) (tSortSetN X.K ta) := by
  refine ⟨fun pins s σ H Q I h => ?_⟩
  have in1 := pe_callTy (x := "set") (p := p2) (pos := pos2) (cr_setIN hc) hg2 hm2 (by decide +kernel) (pa_cons (pe_weak ha) pa_nil na) (by decide) (by decide) na
  refine (pe_callB (cr_sortedSetN hc) hg hm (by decide +kernel) (pa_cons in1 pa_nil)).run pins s σ H Q I ?_
  refine ⟨_, h, ?_⟩
  rintro x H1 ⟨l, ns, rfl, hS, hn, q⟩
  refine ⟨l, ns, rfl, hS, by omega, fun p c hp hc => ?_⟩
  refine ⟨p, _, c, rfl, upd_same, by omega, fun ms p2 h1 h2 h3 hp2 => ?_⟩
  exact q ms p p2 _ h1 (fun k => by rw [h2, decide_eq_true_eq]) (by omega) hp hp2
theorem a_sortSetN {K : PySem.W.Frag} {te : TE} {σ : L2.St} {H : Hp} {Q : VK} : tSortSetN K te σ H Q = te σ H fun x H1 => ∃ (a : Addr) (ns : List Int), x = .ref a ∧ SqL K H1 a (ns.map V.int) ∧ ns.length ≤ 4000 ∧
  ∀ (ms : List Int) (S p : Addr) (o : HO), ms.Pairwise (· < ·) → (∀ k : Int, k ∈ ms ↔ k ∈ ns) → ms.length ≤ ns.length → H1 S = none → upd H1 S o p = none → Q (.ref p) (upd (upd H1 S o) p (.lst (ms.map V.int))) := rfl
end
end Mi

/-! a list greater than another one -/
namespace Mi
open PySem PySem.Spec PyProof.Rows L2
/-- greater, as lists are ordered -/
def gtL : List Int → List Int → Bool
  | [], [] => false
  | [], _ :: _ => false
  | _ :: _, [] => true
  | x :: xs, y :: ys => if x = y then gtL xs ys else decide (x > y)
section
open PySem.SeqAt AutoSeq1 MeetsSeq MeetsSeq2 MeetsSeq3 SeqRoads2
theorem gt_turns (l b : Addr) (us vs : Array Value) (n m : Nat) (xs ys : List Int) (hx : IntsAre us.toList xs) (hy : IntsAre vs.toList ys) (k : Nat) : ∀ i : Nat, us.size - i = k → i ≤ us.size → i ≤ vs.size → Meets (Builtin.«list.__eq__.loop» ⟨[.ref l, .ref b, rawInt i, rawInt 4], []⟩)
    (fun A R s => s.heap.get? l = some { cls := .type "list", data := .seq us n } ∧ s.heap.get? b = some { cls := .type "list", data := .seq vs m } ∧ R (.ok (.ret (.bool (gtL (xs.drop i) (ys.drop i))))) s) := by
  have lx : us.size = xs.length := by rw [← (ints_get (i := 0) hx).1, Array.length_toList]
  have ly : vs.size = ys.length := by rw [← (ints_get (i := 0) hy).1, Array.length_toList]
  have ending : ∀ i, i ≤ us.size → i ≤ vs.size → (i = us.size ∨ i = vs.size) → gtL (xs.drop i) (ys.drop i) = decide (us.size > vs.size) := by
    intro i h1 h2 h3
    by_cases c1 : i = us.size
    · rw [List.drop_of_length_le (l := xs) (by omega)]
      by_cases c2 : i = vs.size
      · rw [List.drop_of_length_le (by omega)]
        exact (decide_eq_false (by omega)).symm
      · obtain ⟨y, hy⟩ : ∃ y, ys[i]? = some y := ⟨_, List.getElem?_eq_getElem (by omega)⟩
        rw [drop_at hy]
        exact (decide_eq_false (by omega)).symm
    · obtain ⟨x, hx⟩ : ∃ x, xs[i]? = some x := ⟨_, List.getElem?_eq_getElem (by omega)⟩
      rw [List.drop_of_length_le (l := ys) (by omega), drop_at hx]
      exact (decide_eq_true (by omega)).symm
  induction k with
  | zero =>
    intro i hk hi hi2 prog w A R s h
    have en := ending i hi hi2 (Or.inl (by omega))
    obtain ⟨hp, g, d, tk, os⟩ := s
    obtain ⟨h1, h2, h⟩ := h
    wp_walk using wpAny_loadPart' h1, wpAny_loadPart' h2
    have no : us[((i : Nat) : Int).toNat]? = none := by simp; omega
    rw [no]
    wp_walk using wpAny_loadPart' h1, wpAny_loadPart' h2
    rw [en] at h
    exact h
  | succ k ih =>
    intro i hk hi hi2 prog w A R s h
    obtain ⟨hp, g, d, tk, os⟩ := s
    obtain ⟨h1, h2, h⟩ := h
    wp_walk using wpAny_loadPart' h1, wpAny_loadPart' h2
    have lt : i < us.size := by omega
    have g1 : us[((i : Nat) : Int).toNat]? = some us[i] := by simp [lt]
    obtain ⟨x, t, ex, ux⟩ := (ints_get (i := i) hx).2 us[i] (by simp [lt])
    rw [g1]
    by_cases c : i < vs.size
    · have g2 : vs[((i : Nat) : Int).toNat]? = some vs[i] := by simp [c]
      obtain ⟨y, t2, ey, uy⟩ := (ints_get (i := i) hy).2 vs[i] (by simp [c])
      rw [g2, ux, uy]
      rw [drop_at ex, drop_at ey] at h
      refine wpAny_bind (EqAt.int_int x t y t2 prog w _ _ ?_)
      by_cases e : x = y
      · have h : R (.ok (.ret (.bool (gtL (xs.drop (i + 1)) (ys.drop (i + 1)))))) { heap := hp, gens := g, drawn := d, toks := tk, os := os } := by
          have : gtL (x :: xs.drop (i + 1)) (y :: ys.drop (i + 1)) = gtL (xs.drop (i + 1)) (ys.drop (i + 1)) := if_pos e
          rw [this] at h
          exact h
        rw [beq_iff_eq.mpr e]
        wp_walk
        rw [show ((i : Int) + 1) = ((i + 1 : Nat) : Int) by omega]
        exact ⟨plainId_quiet plain_eq_loop _, codeAny_builtin entry_eq_loop (by
          rw [Around.under_plainId plain_eq_loop _]
          exact ih (i + 1) (by omega) (by omega) (by omega) prog w A R _ ⟨h1, h2, h⟩)⟩
      · have : gtL (x :: xs.drop (i + 1)) (y :: ys.drop (i + 1)) = decide (x > y) := if_neg e
        rw [this] at h
        rw [beq_eq_false_iff_ne.mpr e]
        wp_walk using wpAny_loadPart' h1, wpAny_loadPart' h2
        rw [g1, g2, ux, uy]
        show wpAny _ _ (richCompare .Gt (.int x t) (.int y t2) >>= fun r => ret r) _ _ _
        refine wpAny_bind (richCompare_gives (op := .Gt) (typeIs_int _ x t) (typeIs_int _ y t2) F.slot_int_gt F.entry_int_gt (F.args_int_gt_2 _ _) (gives_int_gt x y t t2) (fun z => nomatch z) ?_)
        exact wpAny_pure h
    · have no : vs[((i : Nat) : Int).toNat]? = none := by simp; omega
      have en := ending i hi hi2 (Or.inr (by omega))
      rw [no]
      wp_walk using wpAny_loadPart' h1, wpAny_loadPart' h2
      rw [en] at h
      exact h
theorem gt_list (l b : Addr) (us vs : Array Value) (n m : Nat) (xs ys : List Int) (hx : IntsAre us.toList xs) (hy : IntsAre vs.toList ys) : Meets (Builtin.«list.__gt__» ⟨[.ref l, .ref b], []⟩)
    (fun A R s => s.heap.get? l = some { cls := .type "list", data := .seq us n } ∧ s.heap.get? b = some { cls := .type "list", data := .seq vs m } ∧ R (.ok (.ret (.bool (gtL xs ys)))) s) := by
  intro prog w A R s h
  obtain ⟨hp, g, d, tk, os⟩ := s
  obtain ⟨h1, h2, h⟩ := h
  have sub := AutoSeq1.sub_list_list
  wp_walk using wpAny_loadPart' h1, wpAny_loadPart' h2
  exact ⟨plainId_quiet plain_eq_loop _, codeAny_builtin entry_eq_loop (by
    rw [Around.under_plainId plain_eq_loop _]
    exact gt_turns l b us vs n m xs ys hx hy _ 0 rfl (Nat.zero_le _) (Nat.zero_le _) prog w A R _ ⟨h1, h2, h⟩)⟩
end
/-- xs > ys of lists of ints that were laid in the run -/
def rGtLI : R2 := fun x y H Q => ∃ (a b : Addr) (ns ms : List Int), x = .ref a ∧ y = .ref b ∧ H a = some (.lst (ns.map V.int)) ∧ H b = some (.lst (ms.map V.int)) ∧ Q (.bl (gtL ns ms)) H
theorem op_gtLI {X : Cx} {k : Nat} (hr : Rm k X.A) : OpR X (compareOp .Gt) rGtLI := by
  intro pins s σ H x y v u Q I rx ry h
  obtain ⟨a, b, ns, ms, rfl, rfl, ha, hb, q⟩ := h
  cases (show v = Value.ref a from rx)
  cases (show u = Value.ref b from ry)
  obtain ⟨z, us, n, r, hl, ea⟩ := I.lstM ha
  obtain ⟨z2, us2, n2, r2, hl2, eb⟩ := I.lstM hb
  have g := gt_list a b us.toArray us2.toArray n n2 ns ms (by rw [List.toList_toArray]; exact Vals.ints r) (by rw [List.toList_toArray]; exact Vals.ints r2)
  show wpAny _ _ (richCompare .Gt (.ref a) (.ref b)) _ _ _
  exact richCompare_meets_room (op := .Gt) ⟨_, ea, rfl⟩ ⟨_, eb, rfl⟩ F.slot_list_gt F.entry_list_gt (F.args_list_gt_2 _ _) g ⟨ea, eb, (show Value.bool (gtL ns ms) ≠ Value.notImplemented ∧ EP X pins σ Q (.bool (gtL ns ms)) s from ⟨(fun z => nomatch z), ⟨.bl _, H, I, rfl, q⟩⟩)⟩ (by have := hr.rm.un; omega)
theorem b_gtLI {x y : V} {H : Hp} {Q : VK} : rGtLI x y H Q = ∃ (a b : Addr) (ns ms : List Int), x = .ref a ∧ y = .ref b ∧ H a = some (.lst (ns.map V.int)) ∧ H b = some (.lst (ms.map V.int)) ∧ Q (.bl (gtL ns ms)) H := rfl
end Mi

/-! a caught exception that its clause looks at -/
namespace Mi
open PySem PySem.Spec PyProof.Rows L2
/-- what the clause 'except x as n' wishes: the exception is of the named class, and stands in sight in the suite -/
def wSee (K : PySem.W.Frag) (c : Value) (i : Nat) (ts : TS) (D : Ends) : WX := fun cls d σ H => d = none ∧ PySem.W.exmOne K cls c = some true ∧
  ∀ a, H a = none → ts { nx := fun σ' H' => D.nx (σ'.set i none) H', rt := fun _ _ => False, bk := fun _ _ => False, ct := fun _ _ => False } (σ.set i (some (.ref a))) (upd H a (ExK cls a))
def tSee (K : PySem.W.Frag) (c : Value) (i : Nat) (tb : WX → TS) (ts : TS) : TS := fun D σ H => tb (wSee K c i ts D) D σ H
section
variable {X : Cx} {x n : Str} {c : Value} {i : Nat} {body suite : List Stmt} {b₀ : Stmt} {np pos pos' : Pos} {tb : WX → TS} {ts : TS}
/-- the clause is entered, the exception in sight -/
theorem enteredS_ {pins : List (Addr × Obj)} {D : Ends} {xe : Value → Shared → Prop} {u : Value} {s' : Shared} (ok : X.Ok) (hx : X.ex = []) (hs : X.stack = X.env :: X.outer) (hf : X.env.frame = some X.env.locals) (hN : X.N.Nodup) (hi : X.N[i]? = some n) (hln : X.env.kindOf n = some .local) (hc : Names X x c)
    (hsu : ∀ (a : Addr) (pn : List (Addr × Obj)), PSs (X.suite a pn) (b₀ :: suite) ts) (air : XE (X.tr (X.pn ++ pins) xe) (wSee X.K c i ts D) u s') :
    wpAny (model X.prog X.w) X.A (noteFrame u X.env) (fun _ s₂ => wpAny (model X.prog X.w) X.A (setFlight u none) (fun _ s₃ => wpAny (model X.prog X.w) X.A (handleBy u X.env [.ExceptHandler (some (.Name x np)) (some n) (b₀ :: suite) pos']) (SP X pins D) X.xe s₃) X.xe s₂) X.xe s' := by
  obtain ⟨a, B, sI, pn2, σ1, H1, cls, d, rfl, I0, old, up, air, na, os, bare, rfl, isC, go⟩ := air
  have I1 : Inv X pins σ1 H1 sI := I0.ofTry ok
  refine Sky.land Zc.steady (by rw [ok.frames, hs]) hf (by rw [← hs]; exact air) fun h1 f1 u1 => ?_
  obtain ⟨o1, v1, e1, z1, d1⟩ := f1.there
  -- the exception is no frame
  have out : a ∉ frs (X.env :: X.outer) := fun m => by
    obtain ⟨_, o, e, no⟩ := f1.2.2.1.mem m
    rw [e1] at e
    cases e
    exact no _ d1
  have nL : a ≠ X.env.locals := fun z => out (List.mem_filterMap.mpr ⟨X.env, List.mem_cons_self, by rw [hf, z]⟩)
  have nF : a ∉ X.fs := fun m => by
    obtain ⟨y, hy, q⟩ := List.mem_filterMap.mp m
    exact out (List.mem_filterMap.mpr ⟨y, List.mem_cons_of_mem _ hy, q⟩)
  -- nor was it there before
  have nI : sI.heap.get? a = none := by
    cases e : sI.heap.get? a with
    | none => rfl
    | some o =>
      have z := old a o e (by rw [show frs (X.tr (X.pn ++ pins) xe).stack = frs (X.env :: X.outer) by rw [← hs]]; exact out)
      rw [f1.2.1] at z
      cases z
  have n0 : X.s_0.heap.get? a = none := by
    cases e : X.s_0.heap.get? a with
    | none => rfl
    | some o =>
      obtain ⟨o2, e2⟩ := I1.base.there a o e (by rw [hx]; exact fun z => nomatch z)
      rw [nI] at e2
      cases e2
  have np2 : ∀ p ∈ X.pn ++ pins, p.1 ≠ a := fun p hp z => by
    have := (I1.pin p hp).1
    rw [z, nI] at this
    cases this
  have I2 : Inv X pins σ1 H1 { s' with heap := h1 } := I1.landed old f1.1 (up.trans u1) os bare
  have S2 := I2.suite e1 d1 na nL nF
  refine wpAny_handleBy_cons (codeAny_handlers_test ?_) (fun q => nomatch q)
  -- the test of the class
  have ty : PySem.W.Looks (model X.prog X.w) h1 (typeOf (.ref a)) cls := fun A Q E s k q => wpAny_typeOf_ref (k _ _ e1) (by rw [z1.1]; exact q)
  have yes := (PySem.W.exm_one (M := model X.prog X.w) I2.kIn ty isC)
  have named : ∀ {Q : Value → Shared → Prop} {E : Value → Shared → Prop}, Q c { s' with heap := h1 } → wpAny (model X.prog X.w) (X.A.mark (some (.ref a))) (eval (.Name x np) X.env) Q E { s' with heap := h1 } := fun q => by
    obtain ⟨g, nd, h | ⟨h, v, nn⟩⟩ := hc
    · exact ld_glob (X := X.suite a ((a, o1) :: (X.pn ++ pins))) S2 g h q nd
    · exact ld_blt (X := X.suite a ((a, o1) :: (X.pn ++ pins))) S2 g h v q nn nd
  refine named (yes.here (codeAny_handlers_suite_as (HandSPX.lands_againZ f1 fun h2 f2 u2 => ?_)))
  obtain ⟨o2, v2, e2, z2, d2⟩ := f2.there
  have I3 : Inv X pins σ1 H1 { s' with heap := h2 } := I1.landed old f2.1 ((up.trans u1).trans u2) os bare
  have S3 := I3.suite e2 d2 na nL nF
  refine store_ok (X := X.suite a ((a, o2) :: (X.pn ++ pins))) (v := .ref a) S3 hN hi (.inl hln) rfl (fun s5 S5 => ?_) (.inr hln)
  have p5 := S5.pin (a, o2) (List.mem_append_left _ List.mem_cons_self)
  have I5 : Inv X pins _ H1 s5 := S5.unsuite ok
  have I6 := seen_ I5 n0 p5.1 z2 d2 p5.2.1 nL np2
  have T6 : Inv (X.suite a (X.pn ++ pins)) [] _ (upd H1 a (ExK cls a)) s5 :=
    ⟨I6.ok.suite _ _, I6.os, I6.bare, I6.base, I6.loc, I6.cell, I6.free, I6.freeC, fun p hp => I6.pin p (by rw [List.append_nil] at hp; exact hp), I6.hok, I6.len⟩
  refine wpAny_mono ((hsu a (X.pn ++ pins)).run [] s5 _ _ _ T6 (go a na)) ?_ (fun _ _ z => False.elim z)
  intro f s6 h6
  cases f with
  | next =>
    obtain ⟨σ6, H6, S6, q6⟩ := h6
    have I7 : Inv X pins σ6 H6 s6 := ⟨ok, S6.os, S6.bare, S6.base, S6.loc, S6.cell, S6.free, S6.freeC, fun p hp => S6.pin p (List.mem_append_left _ hp), S6.hok, S6.len⟩
    exact gone_ok I7 hN hi hln fun s7 J7 => ⟨_, _, J7, q6⟩
  | brk =>
    obtain ⟨_, _, _, q⟩ := h6
    exact q.elim
  | cont =>
    obtain ⟨_, _, _, q⟩ := h6
    exact q.elim
  | ret u =>
    obtain ⟨_, _, _, _, _, q⟩ := h6
    exact q.elim
/-- try: body / except x as n: suite, where the suite looks at the exception -/
theorem ps_try_see (hx : X.ex = []) (hs : X.stack = X.env :: X.outer) (hf : X.env.frame = some X.env.locals) (hN : X.N.Nodup) (hi : X.N[i]? = some n) (hln : X.env.kindOf n = some .local) (hc : Names X x c)
    (hb : ∀ (W : WX) (pn : List (Addr × Obj)) (xe : Value → Shared → Prop), Takes (X.tr pn xe) W → PassesOwn (model X.prog X.w) X.A X.env xe → PSs (X.tr pn xe) body (tb W))
    (hsu : ∀ (a : Addr) (pn : List (Addr × Obj)), PSs (X.suite a pn) (b₀ :: suite) ts) :
    PS X (.Try body [.ExceptHandler (some (.Name x np)) (some n) (b₀ :: suite) pos'] [] [] pos) (tSee X.K c i tb ts) := by
  refine ⟨fun pins s σ H D I h => wpAny_Try_except ?_⟩
  have run := (hb (wSee X.K c i ts D) (X.pn ++ pins) _ (fun u s' air => enteredS_ (pos' := pos') (np := np) I.ok hx hs hf hN hi hln hc hsu air) PassesOwn.looking).run [] s σ H D (I.toTry _) h
  refine wpAny_mono run (fun f s1 h1 => ?_) (fun _ _ z => z)
  cases f with
  | next =>
    obtain ⟨σ1, H1, J, q⟩ := h1
    exact wpAny_execs_nil ⟨σ1, H1, J.ofTry I.ok, q⟩
  | brk =>
    obtain ⟨σ1, H1, J, q⟩ := h1
    exact ⟨σ1, H1, J.ofTry I.ok, q⟩
  | cont =>
    obtain ⟨σ1, H1, J, q⟩ := h1
    exact ⟨σ1, H1, J.ofTry I.ok, q⟩
  | ret u =>
    obtain ⟨v, σ1, H1, J, r, q⟩ := h1
    exact ⟨v, σ1, H1, J.ofTry I.ok, r, q⟩
end
end Mi

/-! a comprehension that lets an exception of a call in its element out -/
namespace Mi
open PySem PySem.Spec PyProof.Rows L2
/-- what is held stays held where only the block's names have changed -/
theorem heldZ_same {base h h' : Heap} {l : List Env} {e C L : Addr} {Z : Obj → Prop} {m m' : Str → Option Value} (sb : Heap.SameBut C h h') (hn : h.Ns C m) (hn' : h'.Ns C m') (hb : base.get? C = none) (x : HandSPX.HeldZ base l e Z L h) : HandSPX.HeldZ base l e Z L h' := by
  obtain ⟨x1, x2, x3, oe, vs, T, oT, ts, k1, k2, k3, k4, k5, k6, k7, k8, k9⟩ := x
  obtain ⟨oc, es, ep, c1, c2, _⟩ := hn
  have ne : ∀ b o fs, h.get? b = some o → o.data = .fields fs → b ≠ C := fun b o fs u v z => by
    rw [z, c1] at u
    cases u
    rw [c2] at v
    cases v
  exact ⟨fun b o u => (sb.2 b (fun z => by rw [z, hb] at u; cases u)).trans (x1 b o u), x2, Heap.FunFrames.sameBut sb hn' x3, oe, vs, T, oT, ts, (sb.2 e (ne e oe vs k1 k3)).trans k1, k2, k3, k4, k5, k6, (sb.2 T (ne T oT ts k7 k8)).trans k7, k8, k9⟩
section
variable {X : Cx}
/-- an exception of a call within the block goes out of it, and on in the def -/
theorem exitBlk {E : XK} {pins : List (Addr × Obj)} {σ : _root_.L2.St} {H : Hp} {s s' : Shared} {u : Value} {ce : Env} (tk : Takes X (fun cls d _ H => E cls d H)) (hs : X.stack = X.env :: X.outer) (hf : X.env.frame = some X.env.locals) (hce : ce.frame = X.env.frame)
    (I : Inv X pins σ H s) (hC : FpOk X pins H ce.locals) (hN : ∃ m, s.heap.Ns ce.locals m) (hCf : ce.locals ∉ frs X.stack) (c : L2.CX X.prog X.w X.stack H s E u s') :
    notedBy (model X.prog X.w) X.A ce (CompFails (model X.prog X.w) X.A X.xe ce) u s' := by
  obtain ⟨a, B, H2, cls, d, rfl, fl, hok, ub, na, os, ag, hE⟩ := c
  obtain ⟨m, hn⟩ := hN
  obtain ⟨oC, es, ep, c1, c2, c3⟩ := id hn
  generalize hCe : ce.locals = C at *
  have bC : B.get? C = some oC := ub.keep C oC c1 hC.1 hCf
  have n2 : H2 C = none := ub.free C oC c1 hC.1
  have hn1 : s'.heap.Ns C m := ⟨oC, es, ep, fl.1 C oC bC, c2, c3⟩
  obtain ⟨G, g1, g2⟩ := restrict B fun b => decide (b ≠ C)
  have gC : G.get? C = none := g2 C (by simp)
  have gB : ∀ b, b ≠ C → G.get? b = B.get? b := fun b hb => g1 b (by simp [hb])
  have gNo : ∀ b, B.get? b = none → G.get? b = none := fun b e => by
    by_cases hb : b = C
    · rw [hb]
      exact gC
    · rw [gB b hb]
      exact e
  have frB : ∀ L ∈ frs X.stack, B.get? L = none := fun L hL => (fl.2.2.1.mem hL).1
  have flG : HandSPX.FlyingZ G X.stack a (Zc cls d) s'.heap := by
    obtain ⟨x1, x2, x3, oe, vs, T, oT, ts, k1, k2, k3, k4, k5, r⟩ := fl
    refine ⟨fun b o e => ?_, gNo a x2, funFrames_none x3 fun L hL => gNo L (frB L hL), oe, vs, T, oT, ts, k1, k2, k3, k4, gNo T k5, r⟩
    by_cases hb : b = C
    · rw [hb, gC] at e
      cases e
    · exact x1 b o ((gB b hb).symm.trans e)
  show wpAny _ X.A (noteFrame (.ref a) ce) _ _ s'
  rw [noteFrame_env _ hce]
  refine HandSPX.looks_onZ Zc.steady (by rw [I.ok.frames, hs]) hf (by rw [← hs]; exact flG) fun h1 hh1 up1 => ?_
  rw [← hs] at hh1
  have hn2 : h1.Ns C m := up1.ns hn1
  refine ⟨m, by rw [hCe]; exact hn2, fun h2 m2 hn3 sb => ?_⟩
  rw [hCe] at hn3 sb
  have hh2 := heldZ_same sb hn2 hn3 gC hh1
  obtain ⟨oe, vs, T, oT, ts, k1, k2, k3, k4, _⟩ := id hh2.2.2.2
  unfold PySem.passOn
  refine wpAny_bind (wpAny_field k1 k3 k4 ?_)
  rw [if_neg (show ¬ ((Value.ref T == Value.none) = true) from by simp), hce, hf]
  refine wpAny_bind (HandSPX.setFlight_onZ hh2 fun h3 hh3 up3 => wpAny_throw (tk _ _ ?_))
  obtain ⟨oD, es3, ep3, d1, d2, _⟩ := up3.ns hn3
  obtain ⟨R, r1, r2⟩ := restrict h3 fun b => (B.get? b).isSome || decide (b ∈ frs X.stack)
  obtain ⟨B2, q1, q2⟩ := restrict h3 fun b => (B.get? b).isSome
  have st : ∀ b o, b ≠ C → B.get? b = some o → h3.get? b = some o := fun b o hb e => hh3.1 b o ((gB b hb).trans e)
  have bNo : ∀ b, B.get? b = none → B2.get? b = none := fun b e => q2 b (by rw [e]; rfl)
  have rB : ∀ b o, b ≠ C → B.get? b = some o → R.get? b = some o := fun b o hb e => (r1 b (by rw [e]; rfl)).trans (st b o hb e)
  have rF : ∀ b o, b ∈ frs X.stack → s.heap.get? b = some o → ∃ sl, R.get? b = some { o with slots := sl } := fun b o hb e => by
    obtain ⟨_, o', e', hd⟩ := I.stack.mem hb
    rw [e] at e'
    cases e'
    have hbC : b ≠ C := fun z => hCf (by rw [← z]; exact hb)
    obtain ⟨s1, e1⟩ := ub.slot b o e hb
    obtain ⟨s2, e2⟩ := up1 b _ e1 hd
    obtain ⟨s3, e3⟩ := up3 b _ ((sb.2 b hbC).trans e2) hd
    exact ⟨s3, (r1 b (by simp [hb])).trans e3⟩
  have rIn : ∀ b o, R.get? b = some o → h3.get? b = some o ∧ ((B.get? b).isSome = true ∨ b ∈ frs X.stack) := fun b o e => by
    cases p : ((B.get? b).isSome || decide (b ∈ frs X.stack)) with
    | false =>
      rw [r2 b p] at e
      cases e
    | true =>
      rw [r1 b p] at e
      exact ⟨e, by simpa [Bool.or_eq_true] using p⟩
  refine ⟨a, B2, { s with heap := R, gens := s'.gens, drawn := s'.drawn, toks := s'.toks }, pins, σ, H2, cls, d, rfl, ?_, fun b o e hb => ?_, Heap.UpToSlots.of_keeps fun b o e => (rIn b o e).1, .inr (.inr ?_), na, os, ag, hE⟩
  · refine I.call (ch := [C]) ⟨fun b o e n hb hc => rB b o (fun z => hc (by simp [z])) (ub.keep b o e n hb), fun b o e n hb _ => rF b o hb e, fun b o e n _ => ub.free b o e n, fun b o e hc => ?_, ub.tups, ub.frzs, ub.tbls⟩ (fun b o q => ?_) ag fun b hb => ?_
    · by_cases hb : b ∈ frs X.stack
      · obtain ⟨sl, e1⟩ := rF b o hb e
        exact ⟨_, e1⟩
      · obtain ⟨o', e1⟩ := ub.there b o e hb
        exact ⟨o', rB b o' (fun z => hc (by simp [z])) e1⟩
    · refine (hok b o q).stay (fun x v hx r => rB x v (fun z => ?_) r) (fun _ q => q) fun _ _ q => q
      subst z
      rcases hx with z | z
      · rw [z, q] at n2
        cases n2
      · rw [n2] at z
        cases z
    · have e : b = C := by simpa using hb
      subst e
      exact ⟨hC.2.2.2.1, hC.2.1, hC.2.2.2.2.1, hC.2.2.2.2.2⟩
  · obtain ⟨e1, e2⟩ := rIn b o e
    rcases e2 with e2 | e2
    · rw [q1 b e2]
      exact e1
    · exact (hb e2).elim
  · obtain ⟨y1, y2, y3, oe', vs', T', oT', ts', j1, j2, j3, j4, j5, j6, j7, j8, j9⟩ := hh3
    refine ⟨fun b o e => ?_, bNo a fl.2.1, funFrames_none y3 fun L hL => bNo L (frB L hL), oe', vs', T', oT', ts', j1, j2, j3, j4, bNo T' ?_, j6, j7, j8, j9⟩
    · cases p : (B.get? b).isSome with
      | false =>
        rw [q2 b p] at e
        cases e
      | true =>
        rw [q1 b p] at e
        exact e
    · have hTC : T' ≠ C := fun z => by
        rw [z, d1] at j7
        cases j7
        rw [d2] at j8
        cases j8
      rw [← gB T' hTC]
      exact j5
/-- a comprehension's walk, its element a call that may let E out -/
theorem lcE_core {E : XK} {pins : List (Addr × Obj)} {s : Shared} {σ : _root_.L2.St} {H : Hp} {Q : VK} {elt tg iter : Expr} {ifs : List Expr} {scope : Scope} {own : List (Str × Nat)} {pos pos' : Pos} {wi : TI} {g : TG} {tt : TT} {te : TE} {use : Option (Value → Sem Unit)} {Qf : Value → Shared → Prop}
    (tk : Takes X (fun cls d _ H => E cls d H)) (hst : X.stack = X.env :: X.outer) (hf : X.env.frame = some X.env.locals) (hc : X.calm = true) (hN : X.N.Nodup) (I : Inv X pins σ H s) (hi : PI X tg iter wi) (ok : BlkOk X.N X.env.scope scope own)
    (hg : ∀ (s : Shared) (H : Hp) (C : Addr) (cl : List (Str × Addr)) (fp : List Addr), PG (X.blk s H scope (compEnvC scope cl C X.env) fp) tg g) (ht : ∀ (s : Shared) (H : Hp) (C : Addr) (cl : List (Str × Addr)) (fp : List Addr), PTs (X.blk s H scope (compEnvC scope cl C X.env) fp) ifs tt)
    (he : ∀ (s : Shared) (H : Hp) (C : Addr) (cl : List (Str × Addr)) (fp : List Addr) (pn : List (Addr × Obj)) (xe : Value → Shared → Prop), PasS ((X.blk s H scope (compEnvC scope cl C X.env) fp).tr pn xe) (fun _ => E) → PE ((X.blk s H scope (compEnvC scope cl C X.env) fp).tr pn xe) elt te)
    (hsf : ∀ x, foldedSetIterable iter X.env x = pure x) (h : tLc wi g tt te (own.map (·.2)) σ H Q)
    (fin : ∀ D ce s' m H', Inv X pins σ H' s' → Q (.ref D) H' → s'.heap.Ns ce.locals m → FpOk X pins H' ce.locals → compEnds (model X.prog X.w) X.A X.xe use Qf (.ref D) ce (.ok .next) s') :
    wpAny (model X.prog X.w) X.A (comprehension (.ListComp elt [⟨tg, iter, ifs, 0⟩] scope pos) scope X.env pos' (newList []) false (eval iter X.env) use) Qf X.xe s := by
  have fr : ∀ y ∈ scope.names, y.2 = .free → ∃ c, X.env.cells.lookup y.1 = some c := fun y hy e => (ok.free y hy e).elim (fun k => I.ok.has _ (.inl k)) fun k => I.ok.has _ (.inr k)
  refine comprehension_at (use := use) rfl hsf (closure_ok fr) ok.kind (fun y hy e => by rw [ok.uniq y hy, e]) (thn (hi.run pins s σ H _ I h) fun xv sa hx => thn hx fun itv sb hb => ?_)
  obtain ⟨it, fp, tn, J, Ha, e, Ia, T, ta, fa, q⟩ := hb
  subst e
  refine wpAny_newObj_type (newEnv_comp ?_) (by show 0 ≤ sizeLine; decide)
  generalize hD : sb.heap.objs.size = D
  have nD : Ha D = none := Ia.hok.fresh (Nat.le_of_eq hD)
  obtain ⟨W, ⟨m0, w0⟩, turn⟩ := q D nD
  generalize hsc : ({ sb with heap := sb.heap.push { cls := .type "list", data := .seq ([] : List Value).toArray } } : Shared) = sc
  have hpc : sc.heap = sb.heap.push { cls := .type "list", data := .seq ([] : List Value).toArray } := by rw [← hsc]
  have Ic : Inv X pins σ (upd Ha D (.lst [])) sc := by
    rw [← hsc]
    exact Ia.laid (t' := sb.toks) (fun b o e => Heap.get?_push_of_some _ e) (Nat.le_of_eq hD) ⟨Nat.zero_le _, [], 0, .nil, by rw [← hD]; exact Heap.get?_push_size _ rfl⟩
  have fc : ∀ b ∈ fp, FpOk X pins (upd Ha D (.lst [])) b ∧ b < sc.heap.objs.size := fun b hb => by
    obtain ⟨o, e, _⟩ := T.obj _ _ ta b hb
    have lt := Heap.lt_size e
    refine ⟨⟨?_, (fa b hb).2⟩, by rw [hpc, Heap.size_push]; exact Nat.lt_succ_of_lt lt⟩
    rw [upd_ne (by rw [← hD]; exact Nat.ne_of_lt lt)]
    exact (fa b hb).1
  have tc : tn 0 sc.heap := T.keep _ _ _ ta fun b _ o e => by rw [hpc]; exact Heap.get?_push_of_some _ e
  have Ib := block_start Ic ok hN fc
  have pg := hg sc (upd Ha D (.lst [])) sc.heap.objs.size (cellsFrom (sc.heap.objs.size + 1) scope.names (cloFrom X.env.cells scope.names [])) fp
  have pt := ht sc (upd Ha D (.lst [])) sc.heap.objs.size (cellsFrom (sc.heap.objs.size + 1) scope.names (cloFrom X.env.cells scope.names [])) fp
  have pe := he sc (upd Ha D (.lst [])) sc.heap.objs.size (cellsFrom (sc.heap.objs.size + 1) scope.names (cloFrom X.env.cells scope.names [])) fp
  show codeAny _ _ (.compStart (.ListComp elt [⟨tg, iter, ifs, 0⟩] scope pos) 0 (.ref it) (.ref D) (compEnvC scope (cellsFrom (sc.heap.objs.size + 1) scope.names (cloFrom X.env.cells scope.names [])) sc.heap.objs.size X.env)) (compEnds (model X.prog X.w) X.A X.xe use Qf (.ref D) (compEnvC scope (cellsFrom (sc.heap.objs.size + 1) scope.names (cloFrom X.env.cells scope.names [])) sc.heap.objs.size X.env)) { sc with heap := pushCells (sc.heap.push { cls := .type "dict", data := .dict #[] }) scope.names }
  have nfp : ∀ b ∈ fp, (upd Ha D (.lst [])) b = none := fun b hb => (fc b hb).1.1
  have hfr : (compEnvC scope (cellsFrom (sc.heap.objs.size + 1) scope.names (cloFrom X.env.cells scope.names [])) sc.heap.objs.size X.env).frame = X.env.frame := rfl
  generalize hce : compEnvC scope (cellsFrom (sc.heap.objs.size + 1) scope.names (cloFrom X.env.cells scope.names [])) sc.heap.objs.size X.env = ce at Ib pg pt pe hfr ⊢
  have cL : ce.locals = sc.heap.objs.size := by subst hce; rfl
  generalize hHb : upd Ha D (.lst []) = Hb at Ic Ib pg pt pe w0 nfp fc
  generalize hsd : ({ sc with heap := pushCells (sc.heap.push { cls := .type "dict", data := .dict #[] }) scope.names } : Shared) = sd at Ib ⊢
  have td : tn 0 sd.heap := T.keep _ _ _ tc fun b _ o e => by rw [← hsd]; exact pushCells_keeps _ _ _ _ (Heap.get?_push_of_some _ e)
  have stat : ∀ {σ' : _root_.L2.St} {H' : Hp} {s' : Shared}, Inv (X.blk sc Hb scope ce fp) [] σ' H' s' → (∀ b ∈ fp, H' b = none) → ∀ b ∈ fp, FpOk (X.blk sc Hb scope ce fp) [] H' b := fun {σ' H' s'} J' hn b hb =>
    ⟨hn b hb, (J'.ok.exf b hb).1, J'.ok.exfs b hb, .inl hb, fun x c e => (J'.ok.exf b hb).2 x c e, fun p hp => absurd (show p ∈ ([] : List (Addr × Obj)) ++ [] from hp) (by simp)⟩
  -- back in the def's own context
  have back : ∀ {Y : Cx} {pins' : List (Addr × Obj)} {σ' : _root_.L2.St} {H' : Hp} {s' : Shared}, s'.os = sc.os → Un (frs X.stack) fp Hb H' sc.heap s'.heap → HOk X.prog X.w H' s'.heap → AllBare s'.gens → Inv X pins σ H' s' := fun u1 u2 u3 u4 =>
    Ic.call' (ch := fp) u1 u2 u3 u4 fun b hb => ⟨(fc b hb).1.2.2.2.1, (fc b hb).1.2.1, (fc b hb).1.2.2.2.2.1, (fc b hb).1.2.2.2.2.2⟩
  have atC : ∀ {H' : Hp}, H' ce.locals = none → FpOk X pins H' ce.locals := fun n => by
    rw [cL] at n ⊢
    exact Ic.fpOk (Nat.le_refl _) n
  have offC : ce.locals ∉ frs X.stack := fun z => by
    have z1 := Ic.fpOk (H' := fun _ => none) (Nat.le_of_eq cL.symm) rfl
    rw [hst] at z
    obtain ⟨x, hx, hxf⟩ := List.mem_filterMap.mp z
    rcases List.mem_cons.mp hx with rfl | hx
    · rw [hf] at hxf
      exact z1.2.1 (Option.some.inj hxf).symm
    · exact z1.2.2.1 (List.mem_filterMap.mpr ⟨x, hx, hxf⟩)
  have loop : codeAny (model X.prog X.w) X.A (.compLoop (.ListComp elt [⟨tg, iter, ifs, 0⟩] scope pos) 0 (.ref it) (.ref D) ce) (compEnds (model X.prog X.w) X.A X.xe use Qf (.ref D) ce) sd := by
    refine compLoop_any (fun n s' => ∃ i H', Inv (X.blk sc Hb scope ce fp) [] (wipe σ (own.map (·.2))) H' s' ∧ tn i s'.heap ∧ (∀ b ∈ fp, H' b = none) ∧ W i n H') ?_ m0 ⟨0, Hb, Ib, td, nfp, w0⟩
    rintro n s1 ⟨i, H1, I1, t1, n1, w1⟩
    rcases turn i n H1 w1 with ⟨stop, qq⟩ | ⟨go, Nx, hNx, step⟩
    · refine thnF (T.done (X.blk sc Hb scope ce fp) rfl rfl rfl hc i [] s1 _ H1 (fun _ _ => False) I1 (stat I1 n1) t1 stop) fun r s2 ⟨hr, I2⟩ => ?_
      subst hr
      obtain ⟨m, hn, _⟩ := I2.loc
      exact fin D ce s2 m H1 (back (Y := X) (pins' := []) (σ' := σ) I2.os I2.base I2.hok I2.bare) qq hn (atC I2.free)
    · refine thnF (T.item (X.blk sc Hb scope ce fp) rfl rfl rfl hc i [] s1 _ H1 (fun _ _ => False) I1 (stat I1 n1) t1 go) fun r s2 ⟨u, hr, h2⟩ => ?_
      subst hr
      refine thnF h2 fun _ s3 ⟨x, H3, I3, r3, y3, t3, n3⟩ => ?_
      have I3' := I3.pinned (stat I3 n3) (T.obj _ _ t3)
      refine thnF (pg.run _ s3 _ H3 x u _ I3' r3 (step x H3 y3)) fun _ s4 ⟨σ4, H4, I4, hw4, q4⟩ => ?_
      refine thnF (pt.run _ s4 σ4 H4 _ I4 q4) fun b s5 ⟨H5, I5, q5⟩ => ?_
      have next : ∀ {s' : Shared} {H' : Hp}, Inv (X.blk sc Hb scope ce fp) ([] ++ pinsAt fp s3.heap) σ4 H' s' → Nx H' → ∃ m, m < n ∧ ∃ i H', Inv (X.blk sc Hb scope ce fp) [] (wipe σ (own.map (·.2))) H' s' ∧ tn i s'.heap ∧ (∀ b ∈ fp, H' b = none) ∧ W i m H' := fun {s' H'} J' nx => by
        obtain ⟨m', hm, w'⟩ := hNx H' nx
        have pin' : ∀ b ∈ fp, ∀ o, s3.heap.get? b = some o → s'.heap.get? b = some o ∧ H' b = none := fun b hb o e =>
          let z := J'.pin (b, o) (List.mem_append_right _ (List.mem_append_right _ (mem_pinsAt hb e)))
          ⟨z.1, z.2.1⟩
        refine ⟨m', hm, i + 1, H', (J'.unpinned (pins := [])).weak (by rw [← hw4, wipe_length]) (fun j v e => ?_), T.keep _ _ _ t3 fun b hb o e => (pin' b hb o e).1, fun b hb => ?_, w'⟩
        · rw [← hw4] at e
          exact (wipe_some e).1
        · obtain ⟨o, e, _⟩ := T.obj _ _ t3 b hb
          exact (pin' b hb o e).2
      cases b with
      | false =>
        rw [if_neg (by decide)] at q5 ⊢
        exact next I5 q5
      | true =>
        rw [if_pos rfl] at q5 ⊢
        have okB := I5.ok
        refine wpAny_mono ((pe _ (notedBy (model X.prog X.w) X.A ce fun e s' => compEnds (model X.prog X.w) X.A X.xe use Qf (.ref D) ce (.error e) s') (fun τ pins' H' s' e s'' J c => ?_)).run [] s5 σ4 H5 _ (I5.toTry _) q5) (fun z s6 ⟨yv, H6, I6, r6, acc, hD6, hz6, nx⟩ => ?_) fun e s' z => z
        · have g := exitBlk tk hst hf hfr (back (Y := X) (pins' := []) (σ' := σ) J.os J.base J.hok J.bare) (atC J.free) (by obtain ⟨m, hn, _⟩ := J.loc; exact ⟨m, hn⟩) offC c
          cases use <;> exact g
        · exact app_ok (X := X.blk sc Hb scope ce fp) (I6.ofTry okB) hD6 hz6 r6 fun s7 I7 => next I7 nx
  exact codeAny_compStart_list loop (T.self X.A 0 _ _ _ td loop)
/-- [f(x) for x in ..] as a value, where f may let E out -/
theorem pe_lcE {E : XK} {elt tg iter : Expr} {ifs : List Expr} {scope : Scope} {own : List (Str × Nat)} {pos : Pos} {wi : TI} {g : TG} {tt : TT} {te : TE} (tk : Takes X (fun cls d _ H => E cls d H)) (hst : X.stack = X.env :: X.outer) (hf : X.env.frame = some X.env.locals)
    (hc : X.calm = true) (hN : X.N.Nodup) (hi : PI X tg iter wi) (ok : BlkOk X.N X.env.scope scope own)
    (hg : ∀ (s : Shared) (H : Hp) (C : Addr) (cl : List (Str × Addr)) (fp : List Addr), PG (X.blk s H scope (compEnvC scope cl C X.env) fp) tg g) (ht : ∀ (s : Shared) (H : Hp) (C : Addr) (cl : List (Str × Addr)) (fp : List Addr), PTs (X.blk s H scope (compEnvC scope cl C X.env) fp) ifs tt)
    (he : ∀ (s : Shared) (H : Hp) (C : Addr) (cl : List (Str × Addr)) (fp : List Addr) (pn : List (Addr × Obj)) (xe : Value → Shared → Prop), PasS ((X.blk s H scope (compEnvC scope cl C X.env) fp).tr pn xe) (fun _ => E) → PE ((X.blk s H scope (compEnvC scope cl C X.env) fp).tr pn xe) elt te)
    (hsf : ∀ x, foldedSetIterable iter X.env x = pure x := by intro _; rfl) : PE X (.ListComp elt [⟨tg, iter, ifs, 0⟩] scope pos) (tLc wi g tt te (own.map (·.2))) := by
  refine ⟨fun pins s σ H Q I h => ?_⟩
  rw [eval_ListComp]
  refine lcE_core tk hst hf hc hN I hi ok hg ht he hsf h fun D ce s' m H' J q hn f => ⟨m, hn, fun h2 sb => ?_⟩
  obtain ⟨f0, f1, _, f3, f4, f5⟩ := f
  exact ⟨.ref D, H', J.turned (t' := s'.toks) (fun b o hb e => (sb.2 b hb).trans e) f0 f1 f3 f4 f5, rfl, q⟩
/-- the same, stored in a local on one line -/
theorem ps_setLcE {E : XK} {i : Nat} {y : Str} {py : Pos} {elt tg iter : Expr} {ifs : List Expr} {scope : Scope} {own : List (Str × Nat)} {pos spos : Pos} {wi : TI} {g : TG} {tt : TT} {te : TE} (tk : Takes X (fun cls d _ H => E cls d H)) (hst : X.stack = X.env :: X.outer) (hf : X.env.frame = some X.env.locals)
    (hc : X.calm = true) (hN : X.N.Nodup) (hy : X.N[i]? = some y) (hyl : X.env.scope.names.lookup y = some .local) (hsw : swapsWith (.ListComp elt [⟨tg, iter, ifs, 0⟩] scope pos) (some (.Name y py)) spos.line X.env = pure true) (hi : PI X tg iter wi) (ok : BlkOk X.N X.env.scope scope own)
    (hg : ∀ (s : Shared) (H : Hp) (C : Addr) (cl : List (Str × Addr)) (fp : List Addr), PG (X.blk s H scope (compEnvC scope cl C X.env) fp) tg g) (ht : ∀ (s : Shared) (H : Hp) (C : Addr) (cl : List (Str × Addr)) (fp : List Addr), PTs (X.blk s H scope (compEnvC scope cl C X.env) fp) ifs tt)
    (he : ∀ (s : Shared) (H : Hp) (C : Addr) (cl : List (Str × Addr)) (fp : List Addr) (pn : List (Addr × Obj)) (xe : Value → Shared → Prop), PasS ((X.blk s H scope (compEnvC scope cl C X.env) fp).tr pn xe) (fun _ => E) → PE ((X.blk s H scope (compEnvC scope cl C X.env) fp).tr pn xe) elt te)
    (hsf : ∀ x, foldedSetIterable iter X.env x = pure x := by intro _; rfl) : PS X (.Assign [.Name y py] (.ListComp elt [⟨tg, iter, ifs, 0⟩] scope pos) spos) (tAsg (tLc wi g tt te (own.map (·.2))) (gName i)) := by
  refine ⟨fun pins s σ H D I h => ?_⟩
  rw [exec_Assign_Name_used _ _ _ _ hsw]
  refine wpAny_bind (wpAny_standAt (wpAny_bind ?_))
  show wpAny _ X.A (do let _ ← comprehension (.ListComp elt [⟨tg, iter, ifs, 0⟩] scope pos) scope X.env (firstIterPos [⟨tg, iter, ifs, 0⟩] pos) (newList []) false (eval iter X.env) (some (assign (.Name y py) X.env))) _ _ s
  have h : tLc wi g tt te (own.map (·.2)) σ H (fun x H1 => gName i x σ H1 D.nx) := h
  refine wpAny_bind (thn (lcE_core (Qf := fun _ s' => SP X pins D .next s') tk hst hf hc hN I hi ok hg ht he hsf h fun L ce s' m H' J q hn f => ?_) fun _ s' hq => wpAny_pure (wpAny_pure hq))
  show wpAny _ _ (assign (.Name y py) X.env (.ref L)) _ _ _
  refine wpAny_assign_Name (store_ok2 (v := V.ref L) J hN hy (.inl hyl) rfl (fun s2 J2 ⟨a, sb, ha⟩ => ?_) (.inr hyl))
  obtain ⟨f0, f1, _, f3, f4, f5⟩ := f
  have ne : ce.locals ≠ a := ha.elim (fun z => by rw [z]; exact f1) fun z e => f4 y a z e.symm
  exact ⟨m, hn.sameBut sb ne, fun h3 sb3 => ⟨_, H', J2.turned (t' := s2.toks) (fun b o hb e => (sb3.2 b hb).trans e) f0 f1 f3 f4 f5, q⟩⟩
end
end Mi

/-! how many ways there are, at most -/
namespace Mi
variable {b : Nat}
theorem wn_bd : ∀ (ps : List Nat) (c n : Nat), Wn ps c n ≤ (ps.length + 1) ^ c
  | [], c, n => by
    rw [show ([] : List Nat).length + 1 = 1 from rfl, Nat.one_pow]
    show (if c = 0 ∧ n = 0 then 1 else 0) ≤ 1
    split <;> omega
  | p :: ps, 0, n => by
    rw [wn_zero]
    split <;> simp
  | p :: ps, c + 1, n => by
    have h1 := wn_bd ps (c + 1) n
    have h2 : (if p ≤ n then Wn (p :: ps) c (n - p) else 0) ≤ (ps.length + 2) ^ c := by
      split
      · exact wn_bd (p :: ps) c (n - p)
      · exact Nat.zero_le _
    show Wn ps (c + 1) n + (if p ≤ n then Wn (p :: ps) c (n - p) else 0) ≤ (ps.length + 2) ^ (c + 1)
    have h3 : (ps.length + 1) ^ c ≤ (ps.length + 2) ^ c := Nat.pow_le_pow_left (by omega) c
    have h4 := Nat.mul_le_mul_right (ps.length + 1) h3
    rw [Nat.pow_succ] at h1 ⊢
    rw [Nat.mul_add ((ps.length + 2) ^ c) ps.length 2]
    rw [Nat.mul_add ((ps.length + 2) ^ c) ps.length 1] at h4
    omega
theorem wn_500 {n m : Nat} (hn : n ≤ 500) (hm : m ≤ 12) : Wn (mirs b (n + 1)).reverse m n < 2 ^ 200 := by
  refine Nat.lt_of_le_of_lt (wn_bd _ _ _) ?_
  have : (mirs b (n + 1)).reverse.length + 1 ≤ 502 := by
    rw [List.length_reverse]
    have := mirs_len (b := b) (n := n + 1)
    omega
  refine Nat.lt_of_le_of_lt (Nat.pow_le_pow_left this m) ?_
  exact Nat.lt_of_le_of_lt (Nat.pow_le_pow_right (by decide) hm) (by decide +kernel)
end Mi

/-! a walk from the top down: what comes behind an open step is left alone -/
namespace Mi
open PySem PySem.Spec PyProof.Rows L2
def VarG (o : Option (Option V)) (H : Hp) (Q : VK) : Prop := ∃ v, o = some (some v) ∧ Q v H
def NmG (σ : L2.St) (H : Hp) (J : L2.St → Hp → Prop) : Prop := J σ H
def GoG (sp : Sp) (vs : List V) (H : Hp) (Q : VK) (E : XK) : Prop := sp vs H Q E
section
variable {D : Ends} {σ σ' : L2.St} {H : Hp} {Q : VK} {R : Bool → Hp → Prop} {J : L2.St → Hp → Prop} {ta : TA} {tt : TT} {te : TE} {tb : TS} {g : TG} {K : PySem.W.Frag}
theorem varG_c {o o' : Option (Option V)} (h : o = o') : VarG o H Q = VarG o' H Q := h ▸ rfl
theorem nmG_c (h : σ = σ') : NmG σ H J = NmG σ' H J := h ▸ rfl
theorem goG_c {sp : Sp} {vs vs' : List V} {E : XK} (h : vs = vs') : GoG sp vs H Q E = GoG sp vs' H Q E := h ▸ rfl
theorem forG_c {It1 It2 : It} (h : It1 = It2) (h2 : σ = σ') : ForG It1 g tb D σ H = ForG It2 g tb D σ' H := by rw [h, h2]
theorem lcG_c {It1 It2 : It} {vs : List Nat} {P : Addr} {Qd : Hp → Prop} (h : It1 = It2) (h2 : σ = σ') : LcG It1 g tt te vs σ P Qd H = LcG It2 g tt te vs σ' P Qd H := by rw [h, h2]
theorem v_0 {v : V} : tVar 0 (some v :: σ) H Q = Q v H := propext ⟨fun ⟨w, e, q⟩ => by cases e; exact q, fun q => ⟨v, rfl, q⟩⟩
theorem n_0 {x : Option V} {v : V} : gName 0 v (x :: σ) H J = J (some v :: σ) H := rfl
theorem u_0 {v : V} {ti : TIp} : tAug 0 te ti D (some v :: σ) H = te (some v :: σ) H fun y H1 => ti v y H1 fun z H2 => D.nx (some z :: σ) H2 := propext ⟨fun ⟨w, e, q⟩ => by cases e; exact q, fun q => ⟨v, rfl, q⟩⟩
theorem v_1 {x0 : Option V} {v : V} : tVar 1 (x0 :: some v :: σ) H Q = Q v H := propext ⟨fun ⟨w, e, q⟩ => by cases e; exact q, fun q => ⟨v, rfl, q⟩⟩
theorem n_1 {x0 : Option V} {x : Option V} {v : V} : gName 1 v (x0 :: x :: σ) H J = J (x0 :: some v :: σ) H := rfl
theorem u_1 {x0 : Option V} {v : V} {ti : TIp} : tAug 1 te ti D (x0 :: some v :: σ) H = te (x0 :: some v :: σ) H fun y H1 => ti v y H1 fun z H2 => D.nx (x0 :: some z :: σ) H2 := propext ⟨fun ⟨w, e, q⟩ => by cases e; exact q, fun q => ⟨v, rfl, q⟩⟩
theorem v_2 {x0 x1 : Option V} {v : V} : tVar 2 (x0 :: x1 :: some v :: σ) H Q = Q v H := propext ⟨fun ⟨w, e, q⟩ => by cases e; exact q, fun q => ⟨v, rfl, q⟩⟩
theorem n_2 {x0 x1 : Option V} {x : Option V} {v : V} : gName 2 v (x0 :: x1 :: x :: σ) H J = J (x0 :: x1 :: some v :: σ) H := rfl
theorem u_2 {x0 x1 : Option V} {v : V} {ti : TIp} : tAug 2 te ti D (x0 :: x1 :: some v :: σ) H = te (x0 :: x1 :: some v :: σ) H fun y H1 => ti v y H1 fun z H2 => D.nx (x0 :: x1 :: some z :: σ) H2 := propext ⟨fun ⟨w, e, q⟩ => by cases e; exact q, fun q => ⟨v, rfl, q⟩⟩
theorem v_3 {x0 x1 x2 : Option V} {v : V} : tVar 3 (x0 :: x1 :: x2 :: some v :: σ) H Q = Q v H := propext ⟨fun ⟨w, e, q⟩ => by cases e; exact q, fun q => ⟨v, rfl, q⟩⟩
theorem n_3 {x0 x1 x2 : Option V} {x : Option V} {v : V} : gName 3 v (x0 :: x1 :: x2 :: x :: σ) H J = J (x0 :: x1 :: x2 :: some v :: σ) H := rfl
theorem u_3 {x0 x1 x2 : Option V} {v : V} {ti : TIp} : tAug 3 te ti D (x0 :: x1 :: x2 :: some v :: σ) H = te (x0 :: x1 :: x2 :: some v :: σ) H fun y H1 => ti v y H1 fun z H2 => D.nx (x0 :: x1 :: x2 :: some z :: σ) H2 := propext ⟨fun ⟨w, e, q⟩ => by cases e; exact q, fun q => ⟨v, rfl, q⟩⟩
theorem v_4 {x0 x1 x2 x3 : Option V} {v : V} : tVar 4 (x0 :: x1 :: x2 :: x3 :: some v :: σ) H Q = Q v H := propext ⟨fun ⟨w, e, q⟩ => by cases e; exact q, fun q => ⟨v, rfl, q⟩⟩
theorem n_4 {x0 x1 x2 x3 : Option V} {x : Option V} {v : V} : gName 4 v (x0 :: x1 :: x2 :: x3 :: x :: σ) H J = J (x0 :: x1 :: x2 :: x3 :: some v :: σ) H := rfl
theorem u_4 {x0 x1 x2 x3 : Option V} {v : V} {ti : TIp} : tAug 4 te ti D (x0 :: x1 :: x2 :: x3 :: some v :: σ) H = te (x0 :: x1 :: x2 :: x3 :: some v :: σ) H fun y H1 => ti v y H1 fun z H2 => D.nx (x0 :: x1 :: x2 :: x3 :: some z :: σ) H2 := propext ⟨fun ⟨w, e, q⟩ => by cases e; exact q, fun q => ⟨v, rfl, q⟩⟩
theorem v_5 {x0 x1 x2 x3 x4 : Option V} {v : V} : tVar 5 (x0 :: x1 :: x2 :: x3 :: x4 :: some v :: σ) H Q = Q v H := propext ⟨fun ⟨w, e, q⟩ => by cases e; exact q, fun q => ⟨v, rfl, q⟩⟩
theorem n_5 {x0 x1 x2 x3 x4 : Option V} {x : Option V} {v : V} : gName 5 v (x0 :: x1 :: x2 :: x3 :: x4 :: x :: σ) H J = J (x0 :: x1 :: x2 :: x3 :: x4 :: some v :: σ) H := rfl
theorem u_5 {x0 x1 x2 x3 x4 : Option V} {v : V} {ti : TIp} : tAug 5 te ti D (x0 :: x1 :: x2 :: x3 :: x4 :: some v :: σ) H = te (x0 :: x1 :: x2 :: x3 :: x4 :: some v :: σ) H fun y H1 => ti v y H1 fun z H2 => D.nx (x0 :: x1 :: x2 :: x3 :: x4 :: some z :: σ) H2 := propext ⟨fun ⟨w, e, q⟩ => by cases e; exact q, fun q => ⟨v, rfl, q⟩⟩
theorem v_6 {x0 x1 x2 x3 x4 x5 : Option V} {v : V} : tVar 6 (x0 :: x1 :: x2 :: x3 :: x4 :: x5 :: some v :: σ) H Q = Q v H := propext ⟨fun ⟨w, e, q⟩ => by cases e; exact q, fun q => ⟨v, rfl, q⟩⟩
theorem n_6 {x0 x1 x2 x3 x4 x5 : Option V} {x : Option V} {v : V} : gName 6 v (x0 :: x1 :: x2 :: x3 :: x4 :: x5 :: x :: σ) H J = J (x0 :: x1 :: x2 :: x3 :: x4 :: x5 :: some v :: σ) H := rfl
theorem u_6 {x0 x1 x2 x3 x4 x5 : Option V} {v : V} {ti : TIp} : tAug 6 te ti D (x0 :: x1 :: x2 :: x3 :: x4 :: x5 :: some v :: σ) H = te (x0 :: x1 :: x2 :: x3 :: x4 :: x5 :: some v :: σ) H fun y H1 => ti v y H1 fun z H2 => D.nx (x0 :: x1 :: x2 :: x3 :: x4 :: x5 :: some z :: σ) H2 := propext ⟨fun ⟨w, e, q⟩ => by cases e; exact q, fun q => ⟨v, rfl, q⟩⟩
theorem v_7 {x0 x1 x2 x3 x4 x5 x6 : Option V} {v : V} : tVar 7 (x0 :: x1 :: x2 :: x3 :: x4 :: x5 :: x6 :: some v :: σ) H Q = Q v H := propext ⟨fun ⟨w, e, q⟩ => by cases e; exact q, fun q => ⟨v, rfl, q⟩⟩
theorem n_7 {x0 x1 x2 x3 x4 x5 x6 : Option V} {x : Option V} {v : V} : gName 7 v (x0 :: x1 :: x2 :: x3 :: x4 :: x5 :: x6 :: x :: σ) H J = J (x0 :: x1 :: x2 :: x3 :: x4 :: x5 :: x6 :: some v :: σ) H := rfl
theorem u_7 {x0 x1 x2 x3 x4 x5 x6 : Option V} {v : V} {ti : TIp} : tAug 7 te ti D (x0 :: x1 :: x2 :: x3 :: x4 :: x5 :: x6 :: some v :: σ) H = te (x0 :: x1 :: x2 :: x3 :: x4 :: x5 :: x6 :: some v :: σ) H fun y H1 => ti v y H1 fun z H2 => D.nx (x0 :: x1 :: x2 :: x3 :: x4 :: x5 :: x6 :: some z :: σ) H2 := propext ⟨fun ⟨w, e, q⟩ => by cases e; exact q, fun q => ⟨v, rfl, q⟩⟩
theorem v_8 {x0 x1 x2 x3 x4 x5 x6 x7 : Option V} {v : V} : tVar 8 (x0 :: x1 :: x2 :: x3 :: x4 :: x5 :: x6 :: x7 :: some v :: σ) H Q = Q v H := propext ⟨fun ⟨w, e, q⟩ => by cases e; exact q, fun q => ⟨v, rfl, q⟩⟩
theorem n_8 {x0 x1 x2 x3 x4 x5 x6 x7 : Option V} {x : Option V} {v : V} : gName 8 v (x0 :: x1 :: x2 :: x3 :: x4 :: x5 :: x6 :: x7 :: x :: σ) H J = J (x0 :: x1 :: x2 :: x3 :: x4 :: x5 :: x6 :: x7 :: some v :: σ) H := rfl
theorem u_8 {x0 x1 x2 x3 x4 x5 x6 x7 : Option V} {v : V} {ti : TIp} : tAug 8 te ti D (x0 :: x1 :: x2 :: x3 :: x4 :: x5 :: x6 :: x7 :: some v :: σ) H = te (x0 :: x1 :: x2 :: x3 :: x4 :: x5 :: x6 :: x7 :: some v :: σ) H fun y H1 => ti v y H1 fun z H2 => D.nx (x0 :: x1 :: x2 :: x3 :: x4 :: x5 :: x6 :: x7 :: some z :: σ) H2 := propext ⟨fun ⟨w, e, q⟩ => by cases e; exact q, fun q => ⟨v, rfl, q⟩⟩
theorem v_9 {x0 x1 x2 x3 x4 x5 x6 x7 x8 : Option V} {v : V} : tVar 9 (x0 :: x1 :: x2 :: x3 :: x4 :: x5 :: x6 :: x7 :: x8 :: some v :: σ) H Q = Q v H := propext ⟨fun ⟨w, e, q⟩ => by cases e; exact q, fun q => ⟨v, rfl, q⟩⟩
theorem n_9 {x0 x1 x2 x3 x4 x5 x6 x7 x8 : Option V} {x : Option V} {v : V} : gName 9 v (x0 :: x1 :: x2 :: x3 :: x4 :: x5 :: x6 :: x7 :: x8 :: x :: σ) H J = J (x0 :: x1 :: x2 :: x3 :: x4 :: x5 :: x6 :: x7 :: x8 :: some v :: σ) H := rfl
theorem u_9 {x0 x1 x2 x3 x4 x5 x6 x7 x8 : Option V} {v : V} {ti : TIp} : tAug 9 te ti D (x0 :: x1 :: x2 :: x3 :: x4 :: x5 :: x6 :: x7 :: x8 :: some v :: σ) H = te (x0 :: x1 :: x2 :: x3 :: x4 :: x5 :: x6 :: x7 :: x8 :: some v :: σ) H fun y H1 => ti v y H1 fun z H2 => D.nx (x0 :: x1 :: x2 :: x3 :: x4 :: x5 :: x6 :: x7 :: x8 :: some z :: σ) H2 := propext ⟨fun ⟨w, e, q⟩ => by cases e; exact q, fun q => ⟨v, rfl, q⟩⟩
theorem v_10 {x0 x1 x2 x3 x4 x5 x6 x7 x8 x9 : Option V} {v : V} : tVar 10 (x0 :: x1 :: x2 :: x3 :: x4 :: x5 :: x6 :: x7 :: x8 :: x9 :: some v :: σ) H Q = Q v H := propext ⟨fun ⟨w, e, q⟩ => by cases e; exact q, fun q => ⟨v, rfl, q⟩⟩
theorem n_10 {x0 x1 x2 x3 x4 x5 x6 x7 x8 x9 : Option V} {x : Option V} {v : V} : gName 10 v (x0 :: x1 :: x2 :: x3 :: x4 :: x5 :: x6 :: x7 :: x8 :: x9 :: x :: σ) H J = J (x0 :: x1 :: x2 :: x3 :: x4 :: x5 :: x6 :: x7 :: x8 :: x9 :: some v :: σ) H := rfl
theorem u_10 {x0 x1 x2 x3 x4 x5 x6 x7 x8 x9 : Option V} {v : V} {ti : TIp} : tAug 10 te ti D (x0 :: x1 :: x2 :: x3 :: x4 :: x5 :: x6 :: x7 :: x8 :: x9 :: some v :: σ) H = te (x0 :: x1 :: x2 :: x3 :: x4 :: x5 :: x6 :: x7 :: x8 :: x9 :: some v :: σ) H fun y H1 => ti v y H1 fun z H2 => D.nx (x0 :: x1 :: x2 :: x3 :: x4 :: x5 :: x6 :: x7 :: x8 :: x9 :: some z :: σ) H2 := propext ⟨fun ⟨w, e, q⟩ => by cases e; exact q, fun q => ⟨v, rfl, q⟩⟩
theorem v_11 {x0 x1 x2 x3 x4 x5 x6 x7 x8 x9 x10 : Option V} {v : V} : tVar 11 (x0 :: x1 :: x2 :: x3 :: x4 :: x5 :: x6 :: x7 :: x8 :: x9 :: x10 :: some v :: σ) H Q = Q v H := propext ⟨fun ⟨w, e, q⟩ => by cases e; exact q, fun q => ⟨v, rfl, q⟩⟩
theorem n_11 {x0 x1 x2 x3 x4 x5 x6 x7 x8 x9 x10 : Option V} {x : Option V} {v : V} : gName 11 v (x0 :: x1 :: x2 :: x3 :: x4 :: x5 :: x6 :: x7 :: x8 :: x9 :: x10 :: x :: σ) H J = J (x0 :: x1 :: x2 :: x3 :: x4 :: x5 :: x6 :: x7 :: x8 :: x9 :: x10 :: some v :: σ) H := rfl
theorem u_11 {x0 x1 x2 x3 x4 x5 x6 x7 x8 x9 x10 : Option V} {v : V} {ti : TIp} : tAug 11 te ti D (x0 :: x1 :: x2 :: x3 :: x4 :: x5 :: x6 :: x7 :: x8 :: x9 :: x10 :: some v :: σ) H = te (x0 :: x1 :: x2 :: x3 :: x4 :: x5 :: x6 :: x7 :: x8 :: x9 :: x10 :: some v :: σ) H fun y H1 => ti v y H1 fun z H2 => D.nx (x0 :: x1 :: x2 :: x3 :: x4 :: x5 :: x6 :: x7 :: x8 :: x9 :: x10 :: some z :: σ) H2 := propext ⟨fun ⟨w, e, q⟩ => by cases e; exact q, fun q => ⟨v, rfl, q⟩⟩
theorem v_12 {x0 x1 x2 x3 x4 x5 x6 x7 x8 x9 x10 x11 : Option V} {v : V} : tVar 12 (x0 :: x1 :: x2 :: x3 :: x4 :: x5 :: x6 :: x7 :: x8 :: x9 :: x10 :: x11 :: some v :: σ) H Q = Q v H := propext ⟨fun ⟨w, e, q⟩ => by cases e; exact q, fun q => ⟨v, rfl, q⟩⟩
theorem n_12 {x0 x1 x2 x3 x4 x5 x6 x7 x8 x9 x10 x11 : Option V} {x : Option V} {v : V} : gName 12 v (x0 :: x1 :: x2 :: x3 :: x4 :: x5 :: x6 :: x7 :: x8 :: x9 :: x10 :: x11 :: x :: σ) H J = J (x0 :: x1 :: x2 :: x3 :: x4 :: x5 :: x6 :: x7 :: x8 :: x9 :: x10 :: x11 :: some v :: σ) H := rfl
theorem u_12 {x0 x1 x2 x3 x4 x5 x6 x7 x8 x9 x10 x11 : Option V} {v : V} {ti : TIp} : tAug 12 te ti D (x0 :: x1 :: x2 :: x3 :: x4 :: x5 :: x6 :: x7 :: x8 :: x9 :: x10 :: x11 :: some v :: σ) H = te (x0 :: x1 :: x2 :: x3 :: x4 :: x5 :: x6 :: x7 :: x8 :: x9 :: x10 :: x11 :: some v :: σ) H fun y H1 => ti v y H1 fun z H2 => D.nx (x0 :: x1 :: x2 :: x3 :: x4 :: x5 :: x6 :: x7 :: x8 :: x9 :: x10 :: x11 :: some z :: σ) H2 := propext ⟨fun ⟨w, e, q⟩ => by cases e; exact q, fun q => ⟨v, rfl, q⟩⟩
theorem v_13 {x0 x1 x2 x3 x4 x5 x6 x7 x8 x9 x10 x11 x12 : Option V} {v : V} : tVar 13 (x0 :: x1 :: x2 :: x3 :: x4 :: x5 :: x6 :: x7 :: x8 :: x9 :: x10 :: x11 :: x12 :: some v :: σ) H Q = Q v H := propext ⟨fun ⟨w, e, q⟩ => by cases e; exact q, fun q => ⟨v, rfl, q⟩⟩
theorem n_13 {x0 x1 x2 x3 x4 x5 x6 x7 x8 x9 x10 x11 x12 : Option V} {x : Option V} {v : V} : gName 13 v (x0 :: x1 :: x2 :: x3 :: x4 :: x5 :: x6 :: x7 :: x8 :: x9 :: x10 :: x11 :: x12 :: x :: σ) H J = J (x0 :: x1 :: x2 :: x3 :: x4 :: x5 :: x6 :: x7 :: x8 :: x9 :: x10 :: x11 :: x12 :: some v :: σ) H := rfl
theorem u_13 {x0 x1 x2 x3 x4 x5 x6 x7 x8 x9 x10 x11 x12 : Option V} {v : V} {ti : TIp} : tAug 13 te ti D (x0 :: x1 :: x2 :: x3 :: x4 :: x5 :: x6 :: x7 :: x8 :: x9 :: x10 :: x11 :: x12 :: some v :: σ) H = te (x0 :: x1 :: x2 :: x3 :: x4 :: x5 :: x6 :: x7 :: x8 :: x9 :: x10 :: x11 :: x12 :: some v :: σ) H fun y H1 => ti v y H1 fun z H2 => D.nx (x0 :: x1 :: x2 :: x3 :: x4 :: x5 :: x6 :: x7 :: x8 :: x9 :: x10 :: x11 :: x12 :: some z :: σ) H2 := propext ⟨fun ⟨w, e, q⟩ => by cases e; exact q, fun q => ⟨v, rfl, q⟩⟩
theorem v_14 {x0 x1 x2 x3 x4 x5 x6 x7 x8 x9 x10 x11 x12 x13 : Option V} {v : V} : tVar 14 (x0 :: x1 :: x2 :: x3 :: x4 :: x5 :: x6 :: x7 :: x8 :: x9 :: x10 :: x11 :: x12 :: x13 :: some v :: σ) H Q = Q v H := propext ⟨fun ⟨w, e, q⟩ => by cases e; exact q, fun q => ⟨v, rfl, q⟩⟩
theorem n_14 {x0 x1 x2 x3 x4 x5 x6 x7 x8 x9 x10 x11 x12 x13 : Option V} {x : Option V} {v : V} : gName 14 v (x0 :: x1 :: x2 :: x3 :: x4 :: x5 :: x6 :: x7 :: x8 :: x9 :: x10 :: x11 :: x12 :: x13 :: x :: σ) H J = J (x0 :: x1 :: x2 :: x3 :: x4 :: x5 :: x6 :: x7 :: x8 :: x9 :: x10 :: x11 :: x12 :: x13 :: some v :: σ) H := rfl
theorem u_14 {x0 x1 x2 x3 x4 x5 x6 x7 x8 x9 x10 x11 x12 x13 : Option V} {v : V} {ti : TIp} : tAug 14 te ti D (x0 :: x1 :: x2 :: x3 :: x4 :: x5 :: x6 :: x7 :: x8 :: x9 :: x10 :: x11 :: x12 :: x13 :: some v :: σ) H = te (x0 :: x1 :: x2 :: x3 :: x4 :: x5 :: x6 :: x7 :: x8 :: x9 :: x10 :: x11 :: x12 :: x13 :: some v :: σ) H fun y H1 => ti v y H1 fun z H2 => D.nx (x0 :: x1 :: x2 :: x3 :: x4 :: x5 :: x6 :: x7 :: x8 :: x9 :: x10 :: x11 :: x12 :: x13 :: some z :: σ) H2 := propext ⟨fun ⟨w, e, q⟩ => by cases e; exact q, fun q => ⟨v, rfl, q⟩⟩
theorem v_15 {x0 x1 x2 x3 x4 x5 x6 x7 x8 x9 x10 x11 x12 x13 x14 : Option V} {v : V} : tVar 15 (x0 :: x1 :: x2 :: x3 :: x4 :: x5 :: x6 :: x7 :: x8 :: x9 :: x10 :: x11 :: x12 :: x13 :: x14 :: some v :: σ) H Q = Q v H := propext ⟨fun ⟨w, e, q⟩ => by cases e; exact q, fun q => ⟨v, rfl, q⟩⟩
theorem n_15 {x0 x1 x2 x3 x4 x5 x6 x7 x8 x9 x10 x11 x12 x13 x14 : Option V} {x : Option V} {v : V} : gName 15 v (x0 :: x1 :: x2 :: x3 :: x4 :: x5 :: x6 :: x7 :: x8 :: x9 :: x10 :: x11 :: x12 :: x13 :: x14 :: x :: σ) H J = J (x0 :: x1 :: x2 :: x3 :: x4 :: x5 :: x6 :: x7 :: x8 :: x9 :: x10 :: x11 :: x12 :: x13 :: x14 :: some v :: σ) H := rfl
theorem u_15 {x0 x1 x2 x3 x4 x5 x6 x7 x8 x9 x10 x11 x12 x13 x14 : Option V} {v : V} {ti : TIp} : tAug 15 te ti D (x0 :: x1 :: x2 :: x3 :: x4 :: x5 :: x6 :: x7 :: x8 :: x9 :: x10 :: x11 :: x12 :: x13 :: x14 :: some v :: σ) H = te (x0 :: x1 :: x2 :: x3 :: x4 :: x5 :: x6 :: x7 :: x8 :: x9 :: x10 :: x11 :: x12 :: x13 :: x14 :: some v :: σ) H fun y H1 => ti v y H1 fun z H2 => D.nx (x0 :: x1 :: x2 :: x3 :: x4 :: x5 :: x6 :: x7 :: x8 :: x9 :: x10 :: x11 :: x12 :: x13 :: x14 :: some z :: σ) H2 := propext ⟨fun ⟨w, e, q⟩ => by cases e; exact q, fun q => ⟨v, rfl, q⟩⟩
theorem v_16 {x0 x1 x2 x3 x4 x5 x6 x7 x8 x9 x10 x11 x12 x13 x14 x15 : Option V} {v : V} : tVar 16 (x0 :: x1 :: x2 :: x3 :: x4 :: x5 :: x6 :: x7 :: x8 :: x9 :: x10 :: x11 :: x12 :: x13 :: x14 :: x15 :: some v :: σ) H Q = Q v H := propext ⟨fun ⟨w, e, q⟩ => by cases e; exact q, fun q => ⟨v, rfl, q⟩⟩
theorem n_16 {x0 x1 x2 x3 x4 x5 x6 x7 x8 x9 x10 x11 x12 x13 x14 x15 : Option V} {x : Option V} {v : V} : gName 16 v (x0 :: x1 :: x2 :: x3 :: x4 :: x5 :: x6 :: x7 :: x8 :: x9 :: x10 :: x11 :: x12 :: x13 :: x14 :: x15 :: x :: σ) H J = J (x0 :: x1 :: x2 :: x3 :: x4 :: x5 :: x6 :: x7 :: x8 :: x9 :: x10 :: x11 :: x12 :: x13 :: x14 :: x15 :: some v :: σ) H := rfl
theorem u_16 {x0 x1 x2 x3 x4 x5 x6 x7 x8 x9 x10 x11 x12 x13 x14 x15 : Option V} {v : V} {ti : TIp} : tAug 16 te ti D (x0 :: x1 :: x2 :: x3 :: x4 :: x5 :: x6 :: x7 :: x8 :: x9 :: x10 :: x11 :: x12 :: x13 :: x14 :: x15 :: some v :: σ) H = te (x0 :: x1 :: x2 :: x3 :: x4 :: x5 :: x6 :: x7 :: x8 :: x9 :: x10 :: x11 :: x12 :: x13 :: x14 :: x15 :: some v :: σ) H fun y H1 => ti v y H1 fun z H2 => D.nx (x0 :: x1 :: x2 :: x3 :: x4 :: x5 :: x6 :: x7 :: x8 :: x9 :: x10 :: x11 :: x12 :: x13 :: x14 :: x15 :: some z :: σ) H2 := propext ⟨fun ⟨w, e, q⟩ => by cases e; exact q, fun q => ⟨v, rfl, q⟩⟩
theorem v_17 {x0 x1 x2 x3 x4 x5 x6 x7 x8 x9 x10 x11 x12 x13 x14 x15 x16 : Option V} {v : V} : tVar 17 (x0 :: x1 :: x2 :: x3 :: x4 :: x5 :: x6 :: x7 :: x8 :: x9 :: x10 :: x11 :: x12 :: x13 :: x14 :: x15 :: x16 :: some v :: σ) H Q = Q v H := propext ⟨fun ⟨w, e, q⟩ => by cases e; exact q, fun q => ⟨v, rfl, q⟩⟩
theorem n_17 {x0 x1 x2 x3 x4 x5 x6 x7 x8 x9 x10 x11 x12 x13 x14 x15 x16 : Option V} {x : Option V} {v : V} : gName 17 v (x0 :: x1 :: x2 :: x3 :: x4 :: x5 :: x6 :: x7 :: x8 :: x9 :: x10 :: x11 :: x12 :: x13 :: x14 :: x15 :: x16 :: x :: σ) H J = J (x0 :: x1 :: x2 :: x3 :: x4 :: x5 :: x6 :: x7 :: x8 :: x9 :: x10 :: x11 :: x12 :: x13 :: x14 :: x15 :: x16 :: some v :: σ) H := rfl
theorem u_17 {x0 x1 x2 x3 x4 x5 x6 x7 x8 x9 x10 x11 x12 x13 x14 x15 x16 : Option V} {v : V} {ti : TIp} : tAug 17 te ti D (x0 :: x1 :: x2 :: x3 :: x4 :: x5 :: x6 :: x7 :: x8 :: x9 :: x10 :: x11 :: x12 :: x13 :: x14 :: x15 :: x16 :: some v :: σ) H = te (x0 :: x1 :: x2 :: x3 :: x4 :: x5 :: x6 :: x7 :: x8 :: x9 :: x10 :: x11 :: x12 :: x13 :: x14 :: x15 :: x16 :: some v :: σ) H fun y H1 => ti v y H1 fun z H2 => D.nx (x0 :: x1 :: x2 :: x3 :: x4 :: x5 :: x6 :: x7 :: x8 :: x9 :: x10 :: x11 :: x12 :: x13 :: x14 :: x15 :: x16 :: some z :: σ) H2 := propext ⟨fun ⟨w, e, q⟩ => by cases e; exact q, fun q => ⟨v, rfl, q⟩⟩
theorem v_18 {x0 x1 x2 x3 x4 x5 x6 x7 x8 x9 x10 x11 x12 x13 x14 x15 x16 x17 : Option V} {v : V} : tVar 18 (x0 :: x1 :: x2 :: x3 :: x4 :: x5 :: x6 :: x7 :: x8 :: x9 :: x10 :: x11 :: x12 :: x13 :: x14 :: x15 :: x16 :: x17 :: some v :: σ) H Q = Q v H := propext ⟨fun ⟨w, e, q⟩ => by cases e; exact q, fun q => ⟨v, rfl, q⟩⟩
theorem n_18 {x0 x1 x2 x3 x4 x5 x6 x7 x8 x9 x10 x11 x12 x13 x14 x15 x16 x17 : Option V} {x : Option V} {v : V} : gName 18 v (x0 :: x1 :: x2 :: x3 :: x4 :: x5 :: x6 :: x7 :: x8 :: x9 :: x10 :: x11 :: x12 :: x13 :: x14 :: x15 :: x16 :: x17 :: x :: σ) H J = J (x0 :: x1 :: x2 :: x3 :: x4 :: x5 :: x6 :: x7 :: x8 :: x9 :: x10 :: x11 :: x12 :: x13 :: x14 :: x15 :: x16 :: x17 :: some v :: σ) H := rfl
theorem u_18 {x0 x1 x2 x3 x4 x5 x6 x7 x8 x9 x10 x11 x12 x13 x14 x15 x16 x17 : Option V} {v : V} {ti : TIp} : tAug 18 te ti D (x0 :: x1 :: x2 :: x3 :: x4 :: x5 :: x6 :: x7 :: x8 :: x9 :: x10 :: x11 :: x12 :: x13 :: x14 :: x15 :: x16 :: x17 :: some v :: σ) H = te (x0 :: x1 :: x2 :: x3 :: x4 :: x5 :: x6 :: x7 :: x8 :: x9 :: x10 :: x11 :: x12 :: x13 :: x14 :: x15 :: x16 :: x17 :: some v :: σ) H fun y H1 => ti v y H1 fun z H2 => D.nx (x0 :: x1 :: x2 :: x3 :: x4 :: x5 :: x6 :: x7 :: x8 :: x9 :: x10 :: x11 :: x12 :: x13 :: x14 :: x15 :: x16 :: x17 :: some z :: σ) H2 := propext ⟨fun ⟨w, e, q⟩ => by cases e; exact q, fun q => ⟨v, rfl, q⟩⟩
theorem v_19 {x0 x1 x2 x3 x4 x5 x6 x7 x8 x9 x10 x11 x12 x13 x14 x15 x16 x17 x18 : Option V} {v : V} : tVar 19 (x0 :: x1 :: x2 :: x3 :: x4 :: x5 :: x6 :: x7 :: x8 :: x9 :: x10 :: x11 :: x12 :: x13 :: x14 :: x15 :: x16 :: x17 :: x18 :: some v :: σ) H Q = Q v H := propext ⟨fun ⟨w, e, q⟩ => by cases e; exact q, fun q => ⟨v, rfl, q⟩⟩
theorem n_19 {x0 x1 x2 x3 x4 x5 x6 x7 x8 x9 x10 x11 x12 x13 x14 x15 x16 x17 x18 : Option V} {x : Option V} {v : V} : gName 19 v (x0 :: x1 :: x2 :: x3 :: x4 :: x5 :: x6 :: x7 :: x8 :: x9 :: x10 :: x11 :: x12 :: x13 :: x14 :: x15 :: x16 :: x17 :: x18 :: x :: σ) H J = J (x0 :: x1 :: x2 :: x3 :: x4 :: x5 :: x6 :: x7 :: x8 :: x9 :: x10 :: x11 :: x12 :: x13 :: x14 :: x15 :: x16 :: x17 :: x18 :: some v :: σ) H := rfl
theorem u_19 {x0 x1 x2 x3 x4 x5 x6 x7 x8 x9 x10 x11 x12 x13 x14 x15 x16 x17 x18 : Option V} {v : V} {ti : TIp} : tAug 19 te ti D (x0 :: x1 :: x2 :: x3 :: x4 :: x5 :: x6 :: x7 :: x8 :: x9 :: x10 :: x11 :: x12 :: x13 :: x14 :: x15 :: x16 :: x17 :: x18 :: some v :: σ) H = te (x0 :: x1 :: x2 :: x3 :: x4 :: x5 :: x6 :: x7 :: x8 :: x9 :: x10 :: x11 :: x12 :: x13 :: x14 :: x15 :: x16 :: x17 :: x18 :: some v :: σ) H fun y H1 => ti v y H1 fun z H2 => D.nx (x0 :: x1 :: x2 :: x3 :: x4 :: x5 :: x6 :: x7 :: x8 :: x9 :: x10 :: x11 :: x12 :: x13 :: x14 :: x15 :: x16 :: x17 :: x18 :: some z :: σ) H2 := propext ⟨fun ⟨w, e, q⟩ => by cases e; exact q, fun q => ⟨v, rfl, q⟩⟩
theorem a_varG {i : Nat} : tVar i σ H Q = VarG σ[i]? H Q := rfl
theorem varG_v {v : V} : VarG (some (some v)) H Q = Q v H := propext ⟨fun ⟨w, e, q⟩ => by cases e; exact q, fun q => ⟨v, rfl, q⟩⟩
theorem a_nameG {i : Nat} {v : V} : gName i v σ H J = NmG (σ.set i (some v)) H J := rfl
theorem nmG_v : NmG σ H J = J σ H := rfl
theorem a_goG {sp : Sp} {E : L2.St → XK} : tGo sp E ta σ H Q = ta σ H fun vs H1 => GoG sp vs H1 Q (E σ) := rfl
theorem g_int {i : Int} {R : Int → Prop} : (∃ j, V.int i = V.int j ∧ R j) = R i := propext ⟨fun ⟨w, e, q⟩ => by cases e; exact q, fun q => ⟨i, rfl, q⟩⟩
theorem g_bl {i : Bool} {R : Bool → Prop} : (∃ j, V.bl i = V.bl j ∧ R j) = R i := propext ⟨fun ⟨w, e, q⟩ => by cases e; exact q, fun q => ⟨i, rfl, q⟩⟩
theorem g_ref {i : Addr} {R : Addr → Prop} : (∃ j, V.ref i = V.ref j ∧ R j) = R i := propext ⟨fun ⟨w, e, q⟩ => by cases e; exact q, fun q => ⟨i, rfl, q⟩⟩
theorem g_str {i : Str} {R : Str → Prop} : (∃ j, V.str i = V.str j ∧ R j) = R i := propext ⟨fun ⟨w, e, q⟩ => by cases e; exact q, fun q => ⟨i, rfl, q⟩⟩
theorem g_rI {C : Int → Int → Prop} {f : Int → Int → V} {i j : Int} : rI C f (.int i) (.int j) H Q = (C i j ∧ Q (f i j) H) := propext ⟨fun ⟨a, b, e, e2, q⟩ => by cases e; cases e2; exact q, fun q => ⟨i, j, rfl, rfl, q⟩⟩
theorem g_rI0 {f : Int → Int → V} {i j : Int} : rI0 f (.int i) (.int j) H Q = Q (f i j) H := propext ⟨fun ⟨a, b, e, e2, q⟩ => by cases e; cases e2; exact q, fun q => ⟨i, j, rfl, rfl, q⟩⟩
theorem g_rU {f : Int → V} {i : Int} : rU f (.int i) H Q = Q (f i) H := propext ⟨fun ⟨a, e, q⟩ => by cases e; exact q, fun q => ⟨i, rfl, q⟩⟩
theorem g_ipI {f : Int → Int → Int} {i j : Int} : ipI f (.int i) (.int j) H Q = Q (.int (f i j)) H := propext ⟨fun ⟨a, b, e, e2, q⟩ => by cases e; cases e2; exact q, fun q => ⟨i, j, rfl, rfl, q⟩⟩
theorem g_cat {l b : Addr} : rCat (.ref l) (.ref b) H Q = ∃ xs, H l = some (.lst xs) ∧ ∃ zs, H b = some (.lst zs) ∧ xs.length + zs.length ≤ sizeLine ∧ ∀ p, H p = none → Q (.ref p) (upd H p (.lst (xs ++ zs))) :=
  propext ⟨fun ⟨_, _, xs, zs, e, e2, h1, h2, q⟩ => by cases e; cases e2; exact ⟨xs, h1, zs, h2, q⟩, fun ⟨xs, h1, zs, h2, q⟩ => ⟨l, b, xs, zs, rfl, rfl, h1, h2, q⟩⟩
theorem g_ixL {p : Addr} {i : Int} : rIxL K (.ref p) (.int i) H Q = ∃ xs, SqL K H p xs ∧ ∃ v, atI xs i = some v ∧ Q v H :=
  propext ⟨fun ⟨_, xs, _, v, e, e2, h1, h2, q⟩ => by cases e; cases e2; exact ⟨xs, h1, v, h2, q⟩, fun ⟨xs, h1, v, h2, q⟩ => ⟨p, xs, i, v, rfl, rfl, h1, h2, q⟩⟩
theorem g_ixT {p : Addr} {i : Int} : rIxT K (.ref p) (.int i) H Q = ∃ xs, SqT K H p xs ∧ ∃ v, atI xs i = some v ∧ Q v H :=
  propext ⟨fun ⟨_, xs, _, v, e, e2, h1, h2, q⟩ => by cases e; cases e2; exact ⟨xs, h1, v, h2, q⟩, fun ⟨xs, h1, v, h2, q⟩ => ⟨p, xs, i, v, rfl, rfl, h1, h2, q⟩⟩
theorem g_slL {a : Addr} {lo hi : Option Int} : rSlL K (.ref a) lo hi H Q = ∃ xs, SqL K H a xs ∧ ∀ p, H p = none → Q (.ref p) (upd H p (.lst (cutV xs lo hi))) :=
  propext ⟨fun ⟨_, xs, e, q⟩ => by cases e; exact ⟨xs, q⟩, fun ⟨xs, q⟩ => ⟨a, xs, rfl, q⟩⟩
theorem g_append {l : Addr} {y : V} : rAppend (.ref l) [y] H Q = ∃ xs, H l = some (.lst xs) ∧ xs.length < sizeLine ∧ Q .non (upd H l (.lst (xs ++ [y]))) :=
  propext ⟨fun ⟨_, xs, z, e, e2, q⟩ => by cases e; cases e2; exact ⟨xs, q⟩, fun ⟨xs, q⟩ => ⟨l, xs, y, rfl, rfl, q⟩⟩
theorem g_aug {i : Nat} {ti : TIp} : tAug i te ti D σ H = VarG σ[i]? H fun x H => te σ H fun y H1 => ti x y H1 fun z H2 => NmG (σ.set i (some z)) H2 D.nx := rfl
end
end Mi

/-! what is never reached; a dict's item -/
namespace Mi
open PySem PySem.Spec PyProof.Rows L2
def spNever : Sp := fun _ _ _ _ => False
def tNever : TS := fun _ _ _ => False
theorem pss_never {X : Cx} {ss : List Stmt} : PSs X ss tNever := ⟨fun _ _ _ _ _ _ h => h.elim⟩
theorem a_dget {ty td : TE} {σ : L2.St} {H : Hp} {Q : VK} : tDGet td ty σ H Q = td σ H fun x H1 => ty σ H1 fun y H2 => ∃ a v, x = .ref a ∧ DGet H2 a y (some v) ∧ Q v H2 := rfl
end Mi

namespace Mi
open PySem PySem.Spec PyProof.Rows L2
/-- most for the fewest -/
def mostF : Nat := 1000000
/-- the places of all mirrored ones to N -/
def PlOk (b N : Nat) (kvs : List (Key × V)) : Prop := ∀ q : Nat, valV kvs (.inl (q : Int) : Key) = if q ∈ mirs b (N + 1) then some (.int (cnt b q : Nat)) else none
def sp_mirrored_to (K : PySem.W.Frag) (C : Str → Addr) : Sp := fun vs H Q E => ∃ y x : V, vs = [y, x] ∧ NB K C H E x fun b => ∃ n : Nat, y = .int n ∧ n ≤ mostF ∧ ∀ p H', Led H [(p, .lst (nints (mirs b (n + 1))))] H' → Q (.ref p) H'
def sp_greatest_by (D : Nat) (K : PySem.W.Frag) (C : Str → Addr) : Sp := fun vs H Q E => ∃ (ra pd : Addr) (b N k n m most : Nat) (kvs : List (Key × V)), vs = [.ref ra, .ref pd, .int n, .int m, .int most] ∧
  SqL K H ra (nints ((mirs b (N + 1)).take k)) ∧ H pd = some (.dK kvs) ∧ PlOk b N kvs ∧ 1 ≤ m ∧ m ≤ D ∧ N ≤ mostF ∧ n ≤ N ∧ most ≤ N ∧ (∀ p, p ∈ mirs b (N + 1) → p ≤ most → p ∈ (mirs b (N + 1)).take k) ∧
  (NoW b n m most → ∀ H', Led H [] H' → Q .non H') ∧ ∀ l p H', Grt b n m most l → Led H [(p, .lst (nints l))] H' → Q (.ref p) H'
def sp_fewest (K : PySem.W.Frag) (C : Str → Addr) : Sp := fun vs H Q E => ∃ y x : V, vs = [y, x] ∧ NB K C H E x fun b => ∃ n : Nat, y = .int n ∧ n ≤ mostF ∧ ∀ p l H', Few b n l → Led H [(p, .lst (nints l))] H' → Q (.ref p) H'
def t_mirrored_to (K : PySem.W.Frag) (C : Str → Addr) (E : XK) : TS :=
  (tRet (tLc (iRng2 (tCons (tC (.int 1)) (tCons (tOp (rI0 fun i j => .int (i + j)) (tGo (sp_many_to K C) (fun _ => E) (tCons (tVar 0) (tCons (tVar 1) tNil))) (tC (.int 1))) tNil))) (gName 2) tYes (tGo (sp_mirrored_at K C) (fun _ => E0) (tCons (tVar 2) (tCons (tVar 1) tNil))) [2]))
def t_greatest_by_b1 (D : Nat) (K : PySem.W.Frag) (C : Str → Addr) (E : XK) : TS :=
  (tSeq (tIfS (tTest (tOp (rI0 fun i j => .bl (decide (i < j))) (tOp (rI CMul fun i j => .int (i * j)) (tVar 5) (tVar 3)) (tVar 2))) (tRet (tC .non)) tNext)
    (tIfS (tAnd (tTest (tOp (rI0 fun i j => .bl (decide (i ≤ j))) (tVar 5) (tVar 4))) (tTest (tOp (rI0 fun i j => .bl (decide (i ≤ j))) (tOp (rI0 fun i j => .int (i + j)) (tVar 5) (tVar 3)) (tOp (rI0 fun i j => .int (i + j)) (tVar 2) (tC (.int 1)))))) (tSeq (tAsg (tGo (sp_greatest_by D K C) (fun _ => E0) (tCons (tSl (rSlL K) (tVar 0) tNoPart (tPart (tDGet (tVar 1) (tVar 5)))) (tCons (tVar 1) (tCons (tOp (rI0 fun i j => .int (i - j)) (tVar 2) (tVar 5)) (tCons (tOp (rI0 fun i j => .int (i - j)) (tVar 3) (tC (.int 1))) (tCons (tVar 5) tNil)))))) (gName 6))
    (tIfS (tTest (tOp rNotN (tVar 6) (tC .non))) (tRet (tOp rCat (tLst (tCons (tVar 5) tNil)) (tVar 6))) tNext)) tNext))
def t_greatest_by (D : Nat) (K : PySem.W.Frag) (C : Str → Addr) (E : XK) : TS :=
  (tSeq (tIfS (tTest (tOp rEq (tVar 3) (tC (.int 1)))) (tSeq (tIfS (tAnd (tTest (tOp (rI0 fun i j => .bl (decide (i ≤ j))) (tVar 2) (tVar 4))) (tB (tDIn (tVar 2) (tVar 1)))) (tRet (tLst (tCons (tVar 2) tNil))) tNext)
    (tRet (tC .non))) tNext)
    (tSeq (tFor (iList K (tRevL K (tVar 0))) (gName 5) (t_greatest_by_b1 D K C E))
    (tRet (tC .non))))
def t_fewest_b1 (K : PySem.W.Frag) (C : Str → Addr) (E : XK) : TS :=
  (tSeq (tAug 5 (tC (.int 1)) (ipI fun i j => i + j))
    (tAsg (tGo (sp_greatest_by 24 K C) (fun _ => E0) (tCons (tVar 2) (tCons (tVar 3) (tCons (tVar 0) (tCons (tVar 5) (tCons (tVar 0) tNil)))))) (gName 4)))
def t_fewest_r2 (K : PySem.W.Frag) (C : Str → Addr) (E : XK) : TS :=
  (tSeq (tAsg (tC .non) (gName 4))
    (tSeq (tAsg (tC (.int 0)) (gName 5))
    (tSeq (tWhile (tTest (tOp rIsN (tVar 4) (tC .non))) (t_fewest_b1 K C E))
    (tRet (tVar 4)))))
def t_fewest (K : PySem.W.Frag) (C : Str → Addr) (E : XK) : TS :=
  (tSeq (tAsg (tGo (sp_mirrored_to K C) (fun _ => E) (tCons (tVar 0) (tCons (tVar 1) tNil))) (gName 2))
    (tSeq (tIfS (tTest (tOp rEq (tVar 0) (tC (.int 0)))) (tRet (tLst tNil)) tNext)
    (tSeq (tAsg (tCB (rDictP K) (tCons (tLc (iEnum K (tCons (tVar 2) tNil)) (gTup K 2 (gCons (gName 6) (gCons (gName 7) gNil))) tYes (tTup (tCons (tVar 7) (tCons (tOp (rI0 fun i j => .int (i + j)) (tVar 6) (tC (.int 1))) tNil))) [6, 7]) tNil)) (gName 3))
    (t_fewest_r2 K C E))))
end Mi

namespace Mi
open PySem PySem.Spec PyProof.Rows L2
local macro_rules
  | `(tactic| walk_at "w") => `(tactic| try simp only [↓v_0, ↓n_0, ↓u_0, ↓v_1, ↓n_1, ↓u_1, ↓v_2, ↓n_2, ↓u_2, ↓v_3, ↓n_3, ↓u_3, ↓v_4, ↓n_4, ↓u_4, ↓v_5, ↓n_5, ↓u_5, ↓v_6, ↓n_6, ↓u_6, ↓v_7, ↓n_7, ↓u_7, ↓v_8, ↓n_8, ↓u_8, ↓v_9, ↓n_9, ↓u_9, ↓v_10, ↓n_10, ↓u_10, ↓v_11, ↓n_11, ↓u_11, ↓v_12, ↓n_12, ↓u_12, ↓v_13, ↓n_13, ↓u_13, ↓v_14, ↓n_14, ↓u_14, ↓v_15, ↓n_15, ↓u_15, ↓v_16, ↓n_16, ↓u_16, ↓v_17, ↓n_17, ↓u_17, ↓v_18, ↓n_18, ↓u_18, ↓v_19, ↓n_19, ↓u_19, ↓a_go, ↓g_int, ↓g_bl, ↓g_ref, ↓g_str, ↓g_rI, ↓g_rI0, ↓g_rU, ↓g_ipI, ↓g_cat, ↓g_ixL, ↓g_ixT, ↓g_slL, ↓g_append, ↓a_excV, ↓a_dispC, ↓a_dispV, ↓a_seq, ↓a_next, ↓a_tru, tru_bl, ↓b_isB, ↓b_notB, b_mulS, b_addS, b_intS, ↓b_lstRg, ↓b_rg1, ↓b_rg2, ↓a_to, b_geLI, b_dictP, ↓a_dIn, ↓a_dNotIn, b_popAt, b_abs, ↓a_glst, a_sortSet, ↓a_dput, ↓a_dnewK, ↓a_dnewT, b_sortI, ↓a_iR3, b_reprV, b_countD, ↓isi_ii, ↓isi_ib, ↓isi_bi, ↓isi_bb, ↓a_asg, ↓a_c, ↓a_op, ↓a_un, ↓a_ret, ↓a_retN, ↓a_ifS, ↓a_drop, ↓a_test, ↓a_B, ↓a_and, ↓a_or, ↓a_not, ↓a_andV, ↓a_orV, ↓a_notV, ↓a_ifE, ↓a_nil, ↓a_cons, ↓a_lst, ↓a_tup, ↓a_cb, ↓a_bm, ↓a_bm0, ↓a_sl, ↓a_po, ↓a_pn, ↓a_gsub, ↓a_gnil, ↓a_gcons, ↓a_gtup, ↓a_chain, ↓a_eq, ↓a_ne, ↓a_yes, ↓a_revL, a_slL, a_ixL, a_ixT, a_append, a_setL, a_cat, ↓a_for, ↓a_lc, ↓a_iL, ↓a_iT, ↓a_iR1, ↓a_iR2, ↓a_iE, ↓a_iZ, ↓a_iS, b_lenL, b_int1b, b_int1i, b_listOf, b_max2, b_min2, b_sum, b_rep, b_eqLI0, b_eqLI1, ↓b_isN, ↓b_notN, ↓b_listEnum, ↓b_raise0, List.getElem?_cons_zero, List.getElem?_cons_succ, List.set_cons_zero, List.set_cons_succ, Option.some.injEq, V.int.injEq, V.ref.injEq, V.bl.injEq, V.str.injEq, List.cons.injEq, and_true, true_and, exists_eq_left', exists_eq_left, exists_eq_right, exists_eq_right', exists_and_left, exists_eq', exists_eq, decide_eq_true_eq, scal_ii, scal_bb, scal_ss, wipe, ↓reduceIte, reduceCtorEq, Bool.not_eq_true', Bool.false_eq_true, not_false_eq_true, not_true_eq_false, if_true, if_false, decide_eq_false_iff_not, List.length_cons, List.length_nil, Nat.zero_add, CDiv, CMul, CPow])
local macro_rules
  | `(tactic| walk_at "z") => `(tactic| first | omega | (rw [sizeLine_eq]; simp only [List.length_append, List.length_map, List.length_cons, List.length_nil, List.length_reverse, nints]; omega) | decide | (simp only [List.length_append, List.length_map, List.length_cons, List.length_nil]; omega))
section
variable {K : PySem.W.Frag} {C : Str → Addr} {H B : Hp} {Q : VK} {E : XK} {F : List (Addr × HO)} {vs : List V}
theorem rd__law_just (h : sp__law_just K C vs H Q E) : t__law_just K C E (fin Q) (start ["caught", "at", "told", "k"] vs) H := by
  obtain ⟨a, c, i, rfl, hi, hx, ha, q⟩ := h
  show t__law_just K C E (fin Q) [some (.ref a), some (.int i), none, none] H
  unfold t__law_just
  have hsl := sizeLine_eq
  walk_at "w"
  refine isX_ ha hx.ec (xf_at (j := 0) hx hi rfl) (.own _) ?_
  walk_at "w"
  refine isX_ ha hx.ec (xf_at (j := 1) hx hi rfl) (.own _) ?_
  walk_at "w"
  refine isX_ ha hx.ec (xf_at (j := 2) hx hi rfl) (.own _) ?_
  walk_at "w"
  refine ⟨by omega, fun p hp => ?_⟩
  have L1 := (Led.refl H).new (o := .lst [.bl (decide (0 = i)), .bl (decide (1 = i)), .bl (decide (2 = i))]) hp
  generalize upd _ _ _ = H1 at L1 ⊢
  refine isX_ (L1.base _ _ ha) hx.ec (xf_at (j := 3) hx hi rfl) (.own _) ?_
  refine isX_ (L1.base _ _ ha) hx.ec (xf_at (j := 4) hx hi rfl) (.own _) ?_
  refine isX_ (L1.base _ _ ha) hx.ec (xf_at (j := 5) hx hi rfl) (.own _) ?_
  refine ⟨by omega, fun p2 hp2 => ?_⟩
  have L2 := L1.new (o := .lst [.bl (decide (3 = i)), .bl (decide (4 = i)), .bl (decide (5 = i))]) hp2
  generalize upd _ _ _ = H2 at L2 ⊢
  refine ⟨_, L2.get 1 rfl, _, L2.get 0 rfl, by show 3 + 3 ≤ sizeLine; omega, fun p3 hp3 => ?_⟩
  have L3 := L2.new (o := .lst ([.bl (decide (0 = i)), .bl (decide (1 = i)), .bl (decide (2 = i))] ++ [.bl (decide (3 = i)), .bl (decide (4 = i)), .bl (decide (5 = i))])) hp3
  generalize upd _ _ _ = H3 at L3 ⊢
  have L4 := L3.one 0 rfl
  refine ⟨.inl ⟨rfl, _, L4.sqI 0 rfl⟩, ?_⟩
  refine isX_ (L4.base _ _ ha) hx.ec (xf_at (j := 6) hx hi rfl) (.own _) ?_
  refine ⟨_, L4.get 0 rfl, by show 6 < sizeLine; omega, ?_⟩
  have L5 := L4.put (o' := .lst (((List.range 7).map fun j => V.bl (decide (j = i))))) 0 rfl
  change rIsX K _ (upd H3 p3 (.lst (((List.range 7).map fun j => V.bl (decide (j = i)))))) _
  generalize upd _ _ _ = H4 at L5 ⊢
  refine isX_ (L5.base _ _ ha) hx.ec hx.ve (.ty _) ⟨_, rfl, ?_⟩
  rw [if_pos rfl]
  refine ⟨by decide, by decide, fun P hP => ?_⟩
  refine lc_r L5 hP (fun k => (List.range k).map fun j => V.bl (decide (j = i))) rfl (fun k H5 hk L6 => ⟨rfl, ?_⟩) fun H5 L6 => ?_
  · walk_at "w"
    refine lc_y L6 ?_ (by rw [List.length_map, List.length_range]; omega)
    rw [List.range_succ, List.map_append]
    refine congrArg _ ?_
    show [V.bl (decide (k = i))] = _
    congr 2
    exact decide_eq_decide.mpr (by omega)
  · have dp : ∀ {q : Addr}, SqL K H5 q ((List.range 7).map fun j => V.bl (decide (j = i))) → Dp K H5 (.ref q) (.list ((List.range 7).map fun j => PyData.bool (decide (j = i)))) := fun h => .lst h (by
      have : ∀ l : List Nat, DpAll K H5 (l.map fun j => V.bl (decide (j = i))) (l.map fun j => PyData.bool (decide (j = i))) := fun l => by
        induction l with
        | nil => exact .nil
        | cons x l ih => exact .cons (.bl _) ih
      exact this _)
    have sh : SeqAt.shaped (.list ((List.range 7).map fun j => PyData.bool (decide (j = i)))) = true := rfl
    refine ⟨_, _, dp (L6.sqI 1 rfl), dp (L6.sqI 0 rfl), sh, sh, ?_⟩
    rw [SeqAt.eqv_refl _ (SeqAt.canLay_of_shaped sh)]
    exact q _ L6.none
def nbD (g : Nat) : List PyData := [.int 1, .int 0, .int (-1), .int 37, .int (37 + g), .int (0 - (37 + g)), .int (-2), .int (-10), .int (10 ^ 40), .bool true, .bool false, .none, .str "10", .str "", .list [.int 10], .tuple [.int 10], .dict [], .list [], .tuple []] ++ [.dict [(.int 10, .int 1)], .list [.int 2, .int 3], .str "2"]
theorem shw_nb {g : Nat} (hg : g < 1000000000) : ShwAll (nbD g) := by
  have h1 : (37 + (g : Int)).natAbs < 10 ^ 190 := Nat.lt_of_le_of_lt (m := 10 ^ 10) (by omega) (by decide +kernel)
  have h2 : (0 - (37 + (g : Int))).natAbs < 10 ^ 190 := Nat.lt_of_le_of_lt (m := 10 ^ 10) (by omega) (by decide +kernel)
  refine .cons ⟨by decide +kernel, by decide +kernel⟩ (.cons ⟨by decide +kernel, by decide +kernel⟩ (.cons ⟨by decide +kernel, by decide +kernel⟩ (.cons ⟨by decide +kernel, by decide +kernel⟩ (.cons (.int h1) (.cons (.int h2) ⟨by decide +kernel, by decide +kernel⟩)))))
def nbV (g : Nat) (p1 p2 p3 p4 p5 p7 p8 : Addr) : List V := [.int 1, .int 0, .int (-1), .int 37, .int (37 + g), .int (0 - (37 + g)), .int (-2), .int (-10), .int (10 ^ 40), .bl true, .bl false, .non, .str "10", .str "", .ref p1, .ref p2, .ref p3, .ref p4, .ref p5] ++ [.ref p7, .ref p8, .str "2"]
theorem rd__law_no_bases (h : sp__law_no_bases K C vs H Q E) : t__law_no_bases K C E (fin Q) (start ["hand", "far", "some"] vs) H := by
  obtain ⟨a, d, m, rfl, ha, hm, q⟩ := h
  show t__law_no_bases K C E (fin Q) [some (.ref a), none, none] H
  unfold t__law_no_bases
  have hsl := sizeLine_eq
  walk_at "w"
  refine ⟨⟨by decide, by decide, by decide⟩, use_draw (l := 1000000000) (Led.own1 ha) 0 rfl hm (by decide) (by decide) fun H1 d1 m1 g hm1 hg L1 => ?_⟩
  walk_at "w"
  refine ⟨⟨by decide, by decide, by decide⟩, by omega, fun p1 h1 => ?_⟩
  (generalize eNW : upd _ _ _ = H2; have L2 := Led.new' L1 h1 eNW; clear eNW)
  refine ⟨by omega, fun p2 h2 => ?_⟩
  (generalize eNW : upd _ _ _ = H3; have L3 := Led.new' L2 h2 eNW; clear eNW)
  refine fun p3 h3 => ?_
  (generalize eNW : upd _ _ _ = H4; have L4 := Led.new' L3 h3 eNW; clear eNW)
  refine ⟨by omega, fun p4 h4 => ?_⟩
  (generalize eNW : upd _ _ _ = H5; have L5 := Led.new' L4 h4 eNW; clear eNW)
  refine ⟨by omega, fun p5 h5 => ?_⟩
  (generalize eNW : upd _ _ _ = H6; have L6 := Led.new' L5 h5 eNW; clear eNW)
  refine ⟨by omega, fun p6 h6 => ?_⟩
  (generalize eNW : upd _ _ _ = H7; have L7 := Led.new' L6 h6 eNW; clear eNW)
  refine fun p7 h7 => ?_
  (generalize eNW : upd _ _ _ = H8; have L8 := Led.new' L7 h7 eNW; clear eNW)
  refine ⟨by omega, fun p8 h8 => ?_⟩
  (generalize eNW : upd _ _ _ = H9; have L9 := Led.new' L8 h8 eNW; clear eNW)
  refine ⟨by omega, fun p9 h9 => ?_⟩
  (generalize eNW : upd _ _ _ = H10; have L10 := Led.new' L9 h9 eNW; clear eNW)
  refine ⟨_, L10.get 3 rfl, _, L10.get 0 rfl, by show 19 + 3 ≤ sizeLine; omega, fun p10 h10 => ?_⟩
  (generalize eNW : upd _ _ _ = H11; have L11 := Led.new' L10 h10 eNW; clear eNW)
  refine q p10 (nbV g p1 p2 p3 p4 p5 p7 p8) (.list (nbD g)) [_, _, _, _, _, _, _, _, _, _] H11 d1 m1 hm1 L11 fun B' hB => ?_
  have e0 : B' p10 = _ := hB _ (List.mem_of_getElem? (i := 0) rfl)
  have e2 : B' p8 = _ := hB _ (List.mem_of_getElem? (i := 2) rfl)
  have e3 : B' p7 = _ := hB _ (List.mem_of_getElem? (i := 3) rfl)
  have e5 : B' p5 = _ := hB _ (List.mem_of_getElem? (i := 5) rfl)
  have e6 : B' p4 = _ := hB _ (List.mem_of_getElem? (i := 6) rfl)
  have e7 : B' p3 = _ := hB _ (List.mem_of_getElem? (i := 7) rfl)
  have e8 : B' p2 = _ := hB _ (List.mem_of_getElem? (i := 8) rfl)
  have e9 : B' p1 = _ := hB _ (List.mem_of_getElem? (i := 9) rfl)
  dsimp only at e0 e2 e3 e5 e6 e7 e8 e9
  refine ⟨e0, by show 22 ≤ 60; decide, ?_, .lst (.of e0) ?_, .lst (shw_nb hg), ?_, ?_⟩
  · refine all_app ?_ ?_
    · have hf : isBase (.int (37 + (g : Int))) = false := by
        show (decide _ && decide _) = false
        rw [decide_eq_false (show ¬ (37 + (g : Int)) ≤ 36 by omega), Bool.and_false]
      have hf2 : isBase (.int (0 - (37 + (g : Int)))) = false := by
        show (decide _ && decide _) = false
        rw [decide_eq_false (show ¬ 2 ≤ (0 - (37 + (g : Int))) by omega), Bool.false_and]
      refine all_cons ⟨trivial, rfl⟩ (all_cons ⟨trivial, rfl⟩ (all_cons ⟨trivial, rfl⟩ (all_cons ⟨trivial, rfl⟩ (all_cons ⟨trivial, hf⟩ (all_cons ⟨trivial, hf2⟩ (all_cons ⟨trivial, rfl⟩ (all_cons ⟨trivial, rfl⟩ (all_cons ⟨trivial, by decide +kernel⟩ (all_cons ⟨trivial, rfl⟩ (all_cons ⟨trivial, rfl⟩ (all_cons ⟨trivial, rfl⟩
        (all_cons ⟨trivial, rfl⟩ (all_cons ⟨trivial, rfl⟩ (all_cons (.ref (kn_lst e9)) (all_cons (.ref (kn_tup e8)) (all_cons (.ref (kn_dK e7)) (all_cons (.ref (kn_lst e6)) (all_cons (.ref (kn_tup e5)) all_nil))))))))))))))))))
    · exact all_cons (.ref (kn_dK e3)) (all_cons (.ref (kn_lst e2)) (all_cons ⟨trivial, rfl⟩ all_nil))
  · exact .cons (.int _) (.cons (.int _) (.cons (.int _) (.cons (.int _) (.cons (.int _) (.cons (.int _) (.cons (.int _) (.cons (.int _) (.cons (.int _) (.cons (.bl _) (.cons (.bl _) (.cons .non (.cons (.str _) (.cons (.str _) (.cons (.lst (.of e9) (.cons (.int _) .nil)) (.cons (.tup (.of e8) (.cons (.int _) .nil)) (.cons (.dic e7 .nil) (.cons (.lst (.of e6) .nil) (.cons (.tup (.of e5) .nil)
      (.cons (.dic e3 (.cons (.int _) .nil)) (.cons (.lst (.of e2) (.cons (.int _) (.cons (.int _) .nil))) (.cons (.str _) .nil)))))))))))))))))))))
  · show PyData.depthAll (nbD g) + 1 ≤ 8
    exact Nat.le_of_ble_eq_true rfl
  · show PyData.bulkAll (nbD g) ≤ 1000
    exact Nat.le_of_ble_eq_true rfl
end
end Mi

/-! things that are looked at; comprehensions over known things -/
namespace Mi
open PySem PySem.Spec PyProof.Rows L2
local macro_rules
  | `(tactic| walk_at "w") => `(tactic| try simp only [↓v_0, ↓n_0, ↓u_0, ↓v_1, ↓n_1, ↓u_1, ↓v_2, ↓n_2, ↓u_2, ↓v_3, ↓n_3, ↓u_3, ↓v_4, ↓n_4, ↓u_4, ↓v_5, ↓n_5, ↓u_5, ↓v_6, ↓n_6, ↓u_6, ↓v_7, ↓n_7, ↓u_7, ↓v_8, ↓n_8, ↓u_8, ↓v_9, ↓n_9, ↓u_9, ↓v_10, ↓n_10, ↓u_10, ↓v_11, ↓n_11, ↓u_11, ↓v_12, ↓n_12, ↓u_12, ↓v_13, ↓n_13, ↓u_13, ↓v_14, ↓n_14, ↓u_14, ↓v_15, ↓n_15, ↓u_15, ↓v_16, ↓n_16, ↓u_16, ↓v_17, ↓n_17, ↓u_17, ↓v_18, ↓n_18, ↓u_18, ↓v_19, ↓n_19, ↓u_19, ↓a_go, ↓g_int, ↓g_bl, ↓g_ref, ↓g_str, ↓g_rI, ↓g_rI0, ↓g_rU, ↓g_ipI, ↓g_cat, ↓g_ixL, ↓g_ixT, ↓g_slL, ↓g_append, ↓a_excV, ↓a_dispC, ↓a_dispV, ↓a_seq, ↓a_next, ↓a_tru, tru_bl, ↓b_isB, ↓b_notB, b_mulS, b_addS, b_intS, ↓b_lstRg, ↓b_rg1, ↓b_rg2, ↓a_to, b_geLI, b_dictP, ↓a_dIn, ↓a_dNotIn, b_popAt, b_abs, ↓a_glst, a_sortSet, ↓a_dput, ↓a_dnewK, ↓a_dnewT, b_sortI, ↓a_iR3, b_reprV, b_countD, ↓isi_ii, ↓isi_ib, ↓isi_bi, ↓isi_bb, ↓a_asg, ↓a_c, ↓a_op, ↓a_un, ↓a_ret, ↓a_retN, ↓a_ifS, ↓a_drop, ↓a_test, ↓a_B, ↓a_and, ↓a_or, ↓a_not, ↓a_andV, ↓a_orV, ↓a_notV, ↓a_ifE, ↓a_nil, ↓a_cons, ↓a_lst, ↓a_tup, ↓a_cb, ↓a_bm, ↓a_bm0, ↓a_sl, ↓a_po, ↓a_pn, ↓a_gsub, ↓a_gnil, ↓a_gcons, ↓a_gtup, ↓a_chain, ↓a_eq, ↓a_ne, ↓a_yes, ↓a_revL, a_slL, a_ixL, a_ixT, a_append, a_setL, a_cat, ↓a_for, ↓a_lc, ↓a_iL, ↓a_iT, ↓a_iR1, ↓a_iR2, ↓a_iE, ↓a_iZ, ↓a_iS, b_lenL, b_int1b, b_int1i, b_listOf, b_max2, b_min2, b_sum, b_rep, b_eqLI0, b_eqLI1, ↓b_isN, ↓b_notN, ↓b_listEnum, ↓b_raise0, List.getElem?_cons_zero, List.getElem?_cons_succ, List.set_cons_zero, List.set_cons_succ, Option.some.injEq, V.int.injEq, V.ref.injEq, V.bl.injEq, V.str.injEq, List.cons.injEq, and_true, true_and, exists_eq_left', exists_eq_left, exists_eq_right, exists_eq_right', exists_and_left, exists_eq', exists_eq, decide_eq_true_eq, scal_ii, scal_bb, scal_ss, wipe, ↓reduceIte, reduceCtorEq, Bool.not_eq_true', Bool.false_eq_true, not_false_eq_true, not_true_eq_false, if_true, if_false, decide_eq_false_iff_not, List.length_cons, List.length_nil, Nat.zero_add, CDiv, CMul, CPow])
local macro_rules
  | `(tactic| walk_at "z") => `(tactic| first | omega | (rw [sizeLine_eq]; simp only [List.length_append, List.length_map, List.length_cons, List.length_nil, List.length_reverse, nints]; omega) | decide | (simp only [List.length_append, List.length_map, List.length_cons, List.length_nil]; omega))
section
variable {K : PySem.W.Frag} {C : Str → Addr} {H B : Hp} {Q : VK} {E : XK} {F G : List (Addr × HO)} {σ : L2.St} {tt : TT} {te : TE} {vs : List Nat}
/-- a thing that is looked at: known, not too great, its text -/
def Thg (K : PySem.W.Frag) (B : Hp) (x : V) : Prop := Kn K B x ∧ Lim lim x ∧ ∃ d, Dq K B x d ∧ Shw d ∧ d.depth ≤ 8 ∧ d.bulk ≤ 1000
theorem Thg.mono {x : V} (s : Same B H) (h : Thg K B x) : Thg K H x := by
  obtain ⟨h1, h2, d, h3, h4⟩ := h
  exact ⟨h1.mono (Same.led s), h2, d, (Same.led s).dq h3, h4⟩
theorem pow_lim : 10 ^ 190 < lim := by decide +kernel
theorem Thg.int {i : Int} (h : i.natAbs < 10 ^ 190) : Thg K B (.int i) := ⟨trivial, (by have := pow_lim; show i < (lim : Nat); omega), .int i, .int i, .int h, Nat.zero_le _, Nat.zero_le _⟩
theorem Thg.bl {i : Bool} : Thg K B (.bl i) := ⟨trivial, trivial, .bool i, .bl i, ⟨rfl, rfl⟩, Nat.zero_le _, Nat.zero_le _⟩
theorem Thg.non : Thg K B .non := ⟨trivial, trivial, .none, .non, ⟨rfl, rfl⟩, Nat.zero_le _, Nat.zero_le _⟩
theorem Thg.str {x : Str} (h : Shw (.str x)) (h2 : (PyData.str x).bulk ≤ 1000) : Thg K B (.str x) := ⟨trivial, trivial, .str x, .str x, h, Nat.zero_le _, h2⟩
theorem shw_num (n : Nat) : Shw (.str (Str.ofString (toString ((n : Nat) : Int)))) := by
  refine ⟨rfl, ?_⟩
  show (List.all _ _) = true
  rw [List.all_eq_true]
  intro c hc
  have hc : c ∈ TL.tl (Str.ofString (toString ((n : Nat) : Int))) := hc
  rw [TL.tl_num] at hc
  have := TL.numL_digits n c hc
  exact decide_eq_true (by omega)
theorem Thg.lst {a : Addr} {xs : List V} {ds : List PyData} (h : B a = some (.lst xs)) (hd : DqAll K B xs ds) (hs : ShwAll ds) (h1 : PyData.depthAll ds ≤ 7) (h2 : PyData.bulkAll ds ≤ 1000) : Thg K B (.ref a) :=
  ⟨kn_lst h, trivial, .list ds, .lst (.of h) hd, .lst hs, Nat.succ_le_succ h1, h2⟩
theorem Thg.tup {a : Addr} {xs : List V} {ds : List PyData} (h : B a = some (.tup xs)) (hd : DqAll K B xs ds) (hs : ShwAll ds) (h1 : PyData.depthAll ds ≤ 7) (h2 : PyData.bulkAll ds ≤ 1000) : Thg K B (.ref a) :=
  ⟨kn_tup h, trivial, .tuple ds, .tup (.of h) hd, .tup hs, Nat.succ_le_succ h1, h2⟩
theorem use_isT {y : V} {b : Nat} (L : Led B F H) (hk : Kn K H y) (hl : Lim lim y) (hb : 2 ≤ b) (hb2 : b ≤ 36) (q : ∀ H', Led B F H' → Q (.bl (mirV b y)) H') : sp_is_mirrored K C [y, .int b] H Q E :=
  ⟨_, _, rfl, NB.good hb hb2 ⟨hk, hl, fun H' M => q H' (L.step0 M)⟩⟩
/-- the things two thousand deep -/
def DeepOk (H : Hp) (d u v : Addr) : Prop := ∃ xs ys, H d = some (.lst [.ref u, .ref v]) ∧ H u = some (.lst xs) ∧ H v = some (.tup ys) ∧ (xs = [] ∨ ∃ w zs, xs = [.ref w] ∧ H w = some (.lst zs))
theorem deep_go {D : Ends} {tb : TS} {rest : L2.St} {s x : Option V} {d0 u0 v0 : Addr} (htb : tb = tAsg (tLst (tCons (tLst (tCons (tOp (rIxL K) (tVar 1) (tC (.int 0))) tNil)) (tCons (tTup (tCons (tOp (rIxL K) (tVar 1) (tC (.int 1))) tNil)) tNil))) (gName 1)) (h0 : DeepOk H d0 u0 v0) (hd : ∀ d u v y H', Led H [] H' → DeepOk H' d u v → D.nx (s :: some (.ref d) :: y :: rest) H') :
    ForG (Itr 0 (Int.toNat 2000)) (gName 2) tb D (s :: some (.ref d0) :: x :: rest) H := by
  have hsl := sizeLine_eq
  subst htb
  refine for_r (fun i σ H' => ∃ d u v y, Led H [] H' ∧ DeepOk H' d u v ∧ σ = s :: some (.ref d) :: y :: rest) ⟨d0, u0, v0, x, Led.refl _, h0, rfl⟩ ?_ ?_
  · rintro N hN i σ H1 hi ⟨d, u, v, y, L1, ⟨xs, ys, e1, e2, e3, _⟩, rfl⟩
    walk_at "w"
    refine ⟨_, .of e1, .ref u, rfl, by omega, fun p1 h1 => ?_⟩
    have M0 := Led.refl H1
    (generalize eNW : upd _ _ _ = H2; have M1 := Led.new' M0 h1 eNW; clear eNW)
    refine ⟨_, .of (M1.base _ _ e1), .ref v, rfl, by omega, fun p2 h2 => ?_⟩
    (generalize eNW : upd _ _ _ = H3; have M2 := Led.new' M1 h2 eNW; clear eNW)
    refine ⟨by omega, fun p3 h3 => ?_⟩
    (generalize eNW : upd _ _ _ = H4; have M3 := Led.new' M2 h3 eNW; clear eNW)
    exact hN _ _ _ ⟨p3, p1, p2, _, L1.step0 M3.none, ⟨_, _, M3.get 0 rfl, M3.get 2 rfl, M3.get 1 rfl, .inr ⟨u, xs, rfl, M3.base _ _ e2⟩⟩, rfl⟩
  · rintro σ H1 ⟨d, u, v, y, L1, hk, rfl⟩
    exact hd d u v y H1 L1 hk
/-- [x for x in xs if p x] -/
theorem lc_flt {a : Addr} {xs : List V} {j : Nat} {P : Addr} {Qd : Hp → Prop} (L : Led B F H) (hP : H P = none) (hS : ∀ H, Led B F H → SqL K H a xs) (p : V → Bool) (hl : xs.length < sizeLine)
    (hw : ∀ x, wipe ((wipe σ vs).set j (some x)) vs = wipe σ vs) (hv : ∀ x, ((wipe σ vs).set j (some x))[j]? = some (some x))
    (ht : ∀ x ∈ xs, ∀ acc H R, Led B ((P, .lst acc) :: F) H → (∀ H', Led B ((P, .lst acc) :: F) H' → R (p x) H') → tt ((wipe σ vs).set j (some x)) H R)
    (hd : ∀ H', Led B ((P, .lst (xs.filter p)) :: F) H' → Qd H') : LcG (Itl K a) (gName j) tt (tVar j) vs σ P Qd H := by
  refine lc_l L hP hS (fun i => (xs.take i).filter p) rfl (fun i x H1 hx L1 => ⟨hw _, ?_⟩) fun H' L' => ?_
  · refine ht x (List.mem_of_getElem? hx) _ _ _ L1 fun H2 L2 => ?_
    have e : (xs.take (i + 1)).filter p = (xs.take i).filter p ++ [x].filter p := by rw [take_get hx, List.filter_append]
    cases hp : p x with
    | true =>
      rw [if_pos rfl]
      rw [List.filter_cons, hp, if_pos rfl, List.filter_nil] at e
      refine ⟨x, hv x, lc_y L2 e (Nat.lt_of_le_of_lt (Nat.le_trans (List.length_filter_le _ _) (by rw [List.length_take]; exact Nat.min_le_right _ _)) hl)⟩
    | false =>
      rw [if_neg Bool.false_ne_true]
      rw [List.filter_cons, hp, if_neg Bool.false_ne_true, List.filter_nil, List.append_nil] at e
      exact lc_n L2 e
  · rw [List.take_length] at L'
    exact hd _ L'
/-- [made of x for x in xs] -/
theorem lc_mkv {a : Addr} {l : List V} {j : Nat} {P : Addr} {Qd : Hp → Prop} (L : Led B F H) (hP : H P = none) (hS : ∀ F' H, Led B (F' ++ F) H → SqL K H a l) (R : Nat → List V → List (Addr × HO) → Prop) (h0 : R 0 [] []) (hR : ∀ i acc G, R i acc G → acc.length ≤ i) (hl : l.length < sizeLine)
    (hw : ∀ x, wipe ((wipe σ vs).set j x) vs = wipe σ vs)
    (he : ∀ i x acc G, l[i]? = some x → R i acc G → ∀ F' H Rr, Led B (F' ++ F) H → (∀ v G' H', R (i + 1) (acc ++ [v]) (G' ++ G) → Led B (G' ++ (F' ++ F)) H' → Rr v H') → te ((wipe σ vs).set j (some x)) H Rr)
    (hd : ∀ acc G H', R l.length acc G → Led B ((P, .lst acc) :: (G ++ F)) H' → Qd H') : LcG (Itl K a) (gName j) tYes te vs σ P Qd H := by
  refine lc_g walk_list (fun i H' => ∃ acc G, R i acc G ∧ Led B ((P, .lst acc) :: (G ++ F)) H') ⟨[], [], h0, L.new hP⟩ (fun i H' _ ⟨acc, G, _, L'⟩ => hS ((P, .lst acc) :: G) _ L') ?_ ?_
  · rintro i x H1 H2 hi ⟨acc, G, hr, L1⟩ y
    obtain ⟨e, y⟩ := y
    subst e
    refine ⟨hw _, ?_⟩
    rw [a_yes, if_pos rfl]
    refine he i x acc G y hr ((P, .lst acc) :: G) _ _ L1 fun v G' H3 hr3 L3 => ?_
    obtain ⟨h1, h2⟩ := Led.item (v := v) L3
    have := hR i acc G hr
    exact ⟨acc, h1, by omega, acc ++ [v], G' ++ G, hr3, h2⟩
  · rintro H' ⟨acc, G, hr, L'⟩
    exact hd acc G H' hr L'
/-- [made of i for i in range] -/
theorem lc_mkr {lo : Int} {n j : Nat} {P : Addr} {Qd : Hp → Prop} (L : Led B F H) (hP : H P = none) (R : Nat → List V → List (Addr × HO) → Prop) (h0 : R 0 [] []) (hR : ∀ i acc G, R i acc G → acc.length ≤ i) (hl : n < sizeLine)
    (hw : ∀ x, wipe ((wipe σ vs).set j x) vs = wipe σ vs)
    (he : ∀ (i : Nat) acc G, i < n → R i acc G → ∀ F' H Rr, Led B (F' ++ F) H → (∀ v G' H', R (i + 1) (acc ++ [v]) (G' ++ G) → Led B (G' ++ (F' ++ F)) H' → Rr v H') → te ((wipe σ vs).set j (some (.int (lo + i)))) H Rr)
    (hd : ∀ acc G H', R n acc G → Led B ((P, .lst acc) :: (G ++ F)) H' → Qd H') : LcG (Itr lo n) (gName j) tYes te vs σ P Qd H := by
  refine lc_g walk_range (fun i H' => ∃ acc G, R i acc G ∧ Led B ((P, .lst acc) :: (G ++ F)) H') ⟨[], [], h0, L.new hP⟩ (fun _ _ _ _ => trivial) ?_ ?_
  · rintro i x H1 H2 hi ⟨acc, G, hr, L1⟩ y
    obtain ⟨e, y⟩ := y
    subst e
    subst y
    refine ⟨hw _, ?_⟩
    rw [a_yes, if_pos rfl]
    refine he i acc G hi hr ((P, .lst acc) :: G) _ _ L1 fun v G' H3 hr3 L3 => ?_
    obtain ⟨h1, h2⟩ := Led.item (v := v) L3
    have := hR i acc G hr
    exact ⟨acc, h1, by omega, acc ++ [v], G' ++ G, hr3, h2⟩
  · rintro H' ⟨acc, G, hr, L'⟩
    exact hd acc G H' hr L'
theorem Led.down {B2 : Hp} (L : Led B2 F H) (s : Same B B2) : Led B F H := by
  refine ⟨fun b o e => L.base b o (s b o e), fun x hx => ⟨(L.own x hx).1, ?_⟩, L.nd⟩
  have h := (L.own x hx).2
  cases e : B x.1 with
  | none => rfl
  | some o =>
    rw [s _ _ e] at h
    cases h
/-- lists of naturals as data -/
theorem ints_data (l : List Nat) : (PyData.list (l.map fun (d : Nat) => PyData.int (d : Int))).canLay0 = true ∧ (PyData.list (l.map fun (d : Nat) => PyData.int (d : Int))).depth ≤ 1 := by
  refine ⟨?_, ?_⟩
  · show PyData.canLayAll0 _ = true
    have := canLay_ints (l.map fun (d : Nat) => (d : Int))
    rwa [List.map_map] at this
  · show PyData.depthAll _ + 1 ≤ 1
    have : ∀ l : List Nat, PyData.depthAll (l.map fun (d : Nat) => PyData.int (d : Int)) ≤ 0 := fun l => by
      induction l with
      | nil => exact Nat.le_refl _
      | cons x l ih => exact Nat.max_le.mpr ⟨Nat.le_refl _, ih⟩
    exact Nat.succ_le_succ (this l)
/-- shaped, by its items -/
theorem shaped_of {ds : List PyData} (h : ∀ d ∈ ds, d.canLay0 = true ∧ d.depth ≤ 60) : SeqAt.shaped (.list ds) = true := by
  have : ∀ ds : List PyData, (∀ d ∈ ds, d.canLay0 = true ∧ d.depth ≤ 60) → PyData.canLayAll0 ds = true ∧ PyData.depthAll ds ≤ 60 := fun ds => by
    induction ds with
    | nil => exact fun _ => ⟨rfl, Nat.zero_le _⟩
    | cons d ds ih =>
      intro h
      have h1 := h d List.mem_cons_self
      have h2 := ih fun x hx => h x (List.mem_cons_of_mem _ hx)
      refine ⟨?_, Nat.max_le.mpr ⟨h1.2, h2.2⟩⟩
      show (PyData.canLay0 d && _) = true
      rw [h1.1, h2.1]
      rfl
  show (PyData.canLayAll0 _ && decide (PyData.depthAll _ + 1 ≤ 64)) = true
  rw [(this ds h).1, decide_eq_true (by have := (this ds h).2; omega)]
  rfl
theorem NB.mp {x : V} {P R : Nat → Prop} (h : NB K C H E x P) (f : ∀ b : Nat, x = .int b → 2 ≤ b → b ≤ 36 → P b → R b) : NB K C H E x R := ⟨h.1, h.2.1, fun b e h1 h2 => f b e h1 h2 (h.2.2 b e h1 h2)⟩
theorem NB.bad {x : V} {P : Nat → Prop} (hk : Kn K H x) (hn : isBase x = false) (he : E (.ref (C "NoBase")) none H) : NB K C H E x P := by
  refine ⟨hk, fun _ => he, fun b e h1 h2 => ?_⟩
  subst e
  exfalso
  have : isBase (.int (b : Nat)) = true := by simp [isBase]; omega
  rw [this] at hn
  cases hn
end
end Mi

namespace Mi
open PySem PySem.Spec PyProof.Rows L2
def llF (as : List Addr) (ls : List (List Nat)) : List (Addr × HO) := as.zip (ls.map fun l => .lst (nints l))
/-- rows of counts: for the first j parts, for c parts; they stand in G -/
structure Tg (G : List (Addr × HO)) (ps : List Nat) (N many : Nat) (rs : List Addr) (ass : List (List Addr)) : Prop where
  len : ass.length = rs.length
  row : ∀ (j : Nat) r as, rs[j]? = some r → ass[j]? = some as → as.length = many + 1 ∧ (r, HO.lst (as.map V.ref)) ∈ G
  cell : ∀ (j : Nat) as (c : Nat) a, ass[j]? = some as → as[c]? = some a → (a, HO.lst (nints (rowL N (Wn (ps.take j).reverse c)))) ∈ G
def sp_counts_by (K : PySem.W.Frag) (C : Str → Addr) : Sp := fun vs H Q E => ∃ (pa : Addr) (ps : List Nat) (N many : Nat), vs = [.ref pa, .int N, .int many] ∧ SqL K H pa (nints ps) ∧ (∀ p ∈ ps, 0 < p ∧ p ≤ N) ∧ ps.length ≤ 100000 ∧ N ≤ 100000 ∧ many ≤ 1000 ∧
  ∀ p rs ass G H', rs.length = ps.length + 1 → Tg G ps N many rs ass → Led H ((p, .lst (rs.map V.ref)) :: G) H' → Q (.ref p) H'
def sp_many_ways (K : PySem.W.Frag) (C : Str → Addr) : Sp := fun vs H Q E => ∃ y x z : V, vs = [y, x, z] ∧ NB K C H E x fun b => ∃ n m : Nat, y = .int n ∧ z = .int m ∧ n ≤ 100000 ∧ m ≤ 1000 ∧ ∀ H', Led H [] H' → Q (.int (Wn (mirs b (n + 1)).reverse m n : Nat)) H'
def sp_all_ways (K : PySem.W.Frag) (C : Str → Addr) : Sp := fun vs H Q E => ∃ y x : V, vs = [y, x] ∧ NB K C H E x fun b => ∃ n : Nat, y = .int n ∧ n ≤ 100000 ∧ ∀ H', Led H [] H' → Q (.int (An (mirs b (n + 1)).reverse n : Nat)) H'
def t_counts_by_b1 (K : PySem.W.Frag) (C : Str → Addr) (E : XK) : TS :=
  (tAugS (tOp (rIxL K) (tVar 5) (tVar 6)) (tVar 7) (tOp (rIxL K) (tOp (rIxL K) (tVar 5) (tOp (rI0 fun i j => .int (i - j)) (tVar 6) (tC (.int 1)))) (tOp (rI0 fun i j => .int (i - j)) (tVar 7) (tVar 4))) (rIxL K) (ipI fun i j => i + j) rSetL)
def t_counts_by_b2 (K : PySem.W.Frag) (C : Str → Addr) (E : XK) : TS :=
  (tFor (iRng2 (tCons (tVar 4) (tCons (tOp (rI0 fun i j => .int (i + j)) (tVar 1) (tC (.int 1))) tNil))) (gName 7) (t_counts_by_b1 K C E))
def t_counts_by_r3 (K : PySem.W.Frag) (C : Str → Addr) (E : XK) : TS :=
  (tDrop (tBM K "list" rAppend (tVar 3) (tCons (tVar 5) tNil)))
def t_counts_by_r4 (K : PySem.W.Frag) (C : Str → Addr) (E : XK) : TS :=
  (tSeq (tFor (iRng2 (tCons (tC (.int 1)) (tCons (tOp (rI0 fun i j => .int (i + j)) (tVar 2) (tC (.int 1))) tNil))) (gName 6) (t_counts_by_b2 K C E))
    (t_counts_by_r3 K C E))
def t_counts_by_b5 (K : PySem.W.Frag) (C : Str → Addr) (E : XK) : TS :=
  (tSeq (tAsg (tLc (iList K (tOp (rIxL K) (tVar 3) (tUn (rU fun i => .int (-i)) (tC (.int 1))))) (gName 8) tYes (tCB (rListOf K) (tCons (tVar 8) tNil)) [8]) (gName 5))
    (t_counts_by_r4 K C E))
def t_counts_by_r6 (K : PySem.W.Frag) (C : Str → Addr) (E : XK) : TS :=
  (tSeq (tFor (iList K (tVar 0)) (gName 4) (t_counts_by_b5 K C E))
    (tRet (tVar 3)))
def t_counts_by (K : PySem.W.Frag) (C : Str → Addr) (E : XK) : TS :=
  (tSeq (tAsg (tLst (tCons (tOp rCat (tLst (tCons (tOp rCat (tLst (tCons (tC (.int 1)) tNil)) (tOp rRep (tLst (tCons (tC (.int 0)) tNil)) (tVar 1))) tNil)) (tLc (iRng1 (tCons (tVar 2) tNil)) (gName 6) tYes (tOp rRep (tLst (tCons (tC (.int 0)) tNil)) (tOp (rI0 fun i j => .int (i + j)) (tVar 1) (tC (.int 1)))) [6])) tNil)) (gName 3))
    (t_counts_by_r6 K C E))
def t_many_ways (K : PySem.W.Frag) (C : Str → Addr) (E : XK) : TS :=
  (tRet (tOp (rIxL K) (tOp (rIxL K) (tOp (rIxL K) (tGo (sp_counts_by K C) (fun _ => E0) (tCons (tGo (sp_mirrored_to K C) (fun _ => E) (tCons (tVar 0) (tCons (tVar 1) tNil))) (tCons (tVar 0) (tCons (tVar 2) tNil)))) (tUn (rU fun i => .int (-i)) (tC (.int 1)))) (tVar 2)) (tVar 0)))
def t_all_ways_b1 (K : PySem.W.Frag) (C : Str → Addr) (E : XK) : TS :=
  (tAugS (tVar 3) (tVar 5) (tOp (rIxL K) (tVar 3) (tOp (rI0 fun i j => .int (i - j)) (tVar 5) (tVar 4))) (rIxL K) (ipI fun i j => i + j) rSetL)
def t_all_ways_b2 (K : PySem.W.Frag) (C : Str → Addr) (E : XK) : TS :=
  (tFor (iRng2 (tCons (tVar 4) (tCons (tOp (rI0 fun i j => .int (i + j)) (tVar 0) (tC (.int 1))) tNil))) (gName 5) (t_all_ways_b1 K C E))
def t_all_ways (K : PySem.W.Frag) (C : Str → Addr) (E : XK) : TS :=
  (tSeq (tAsg (tGo (sp_mirrored_to K C) (fun _ => E) (tCons (tVar 0) (tCons (tVar 1) tNil))) (gName 2))
    (tSeq (tAsg (tOp rCat (tLst (tCons (tC (.int 1)) tNil)) (tOp rRep (tLst (tCons (tC (.int 0)) tNil)) (tVar 0))) (gName 3))
    (tSeq (tFor (iList K (tVar 2)) (gName 4) (t_all_ways_b2 K C E))
    (tRet (tOp (rIxL K) (tVar 3) (tVar 0))))))
end Mi

namespace Mi
open PySem PySem.Spec PyProof.Rows L2
/-- a list of things that is a way of n by these parts -/
def WayV (ps : List Nat) (n : Nat) (xs : List V) : Prop := ∃ l, xs = nints l ∧ IsW ps n l
def sp_need_way (K : PySem.W.Frag) (C : Str → Addr) : Sp := fun vs H Q E => ∃ (n : Nat) (pa t : Addr) (ps : List Nat) (xs : List V), vs = [.int n, .ref pa, .ref t] ∧ SqL K H pa (nints ps) ∧ (∀ p ∈ ps, 0 < p) ∧ H t = some (.lst xs) ∧ (∀ x ∈ xs, Kn K H x) ∧ n ≤ 100000 ∧
  (¬ WayV ps n xs → ∀ H', Led H [] H' → E (.ref (C "NoWay")) none H') ∧ (WayV ps n xs → ∀ H', Led H [] H' → Q .non H')
def sp_way_place (K : PySem.W.Frag) (C : Str → Addr) : Sp := fun vs H Q E => ∃ y x z : V, vs = [y, x, z] ∧ NB K C H E x fun b => ∃ (n : Nat) (t : Addr) (xs : List V), y = .int n ∧ z = .ref t ∧ H t = some (.lst xs) ∧ (∀ x ∈ xs, Kn K H x) ∧ n ≤ 1000 ∧
  (¬ WayV (mirs b (n + 1)) n xs → ∀ H', Led H [] H' → E (.ref (C "NoWay")) none H') ∧
  ∀ l, xs = nints l → IsW (mirs b (n + 1)) n l → ∀ H', Led H [] H' → Q (.int (plW (mirs b (n + 1)) l n (mirs b (n + 1)).length : Nat)) H'
def t_need_way_b1 (K : PySem.W.Frag) (C : Str → Addr) (E : XK) : TS :=
  (tIfS (tOr (tNot (tB (tCB (rIsiY K) (tCons (tVar 3) (tCons (tC (.ty "int")) tNil))))) (tOr (tB (tCB (rIsiY K) (tCons (tVar 3) (tCons (tC (.ty "bool")) tNil)))) (tTest (tOp (rIn K true) (tVar 3) (tVar 1))))) (tRaise0 E (.ref (C "NoWay"))) tNext)
def t_need_way_r2 (K : PySem.W.Frag) (C : Str → Addr) (E : XK) : TS :=
  (tIfS (tOr (tTest (tOp (rEqLI K true) (tLc (iZip K (tCons (tVar 2) (tCons (tSl (rSlL K) (tVar 2) (tPart (tC (.int 1))) tNoPart) tNil))) (gTup K 2 (gCons (gName 4) (gCons (gName 5) gNil))) (tTest (tOp (rI0 fun i j => .bl (decide (i < j))) (tVar 4) (tVar 5))) (tC (.int 1)) [4, 5]) (tLst tNil))) (tTest (tOp rNe (tCB (rSum K) (tCons (tVar 2) tNil)) (tVar 0)))) (tRaise0 E (.ref (C "NoWay"))) tNext)
def t_need_way (K : PySem.W.Frag) (C : Str → Addr) (E : XK) : TS :=
  (tSeq (tIfS (tOr (tNot (tB (tCB (rIsiY K) (tCons (tVar 2) (tCons (tC (.ty "list")) tNil))))) (tTest (tOp (rI0 fun i j => .bl (decide (j < i))) (tCB (rLenL K) (tCons (tVar 2) tNil)) (tVar 0)))) (tRaise0 E (.ref (C "NoWay"))) tNext)
    (tSeq (tFor (iList K (tVar 2)) (gName 3) (t_need_way_b1 K C E))
    (t_need_way_r2 K C E)))
def t_way_place_b1 (K : PySem.W.Frag) (C : Str → Addr) (E : XK) : TS :=
  (Evl.tCut (tIfS (tTest (tOp (rI0 fun i j => .bl (decide (i ≤ j))) (tOp (rIxL K) (tVar 3) (tOp (rI0 fun i j => .int (i - j)) (tVar 7) (tC (.int 1)))) (tVar 6))) (tAug 5 (tOp (rIxL K) (tOp (rIxL K) (tOp (rIxL K) (tVar 4) (tVar 7)) (tOp (rI0 fun i j => .int (i - j)) (tOp (rI0 fun i j => .int (i - j)) (tCB (rLenL K) (tCons (tVar 2) tNil)) (tC (.int 1))) (tVar 8))) (tOp (rI0 fun i j => .int (i - j)) (tVar 6) (tOp (rIxL K) (tVar 3) (tOp (rI0 fun i j => .int (i - j)) (tVar 7) (tC (.int 1)))))) (ipI fun i j => i + j)) tNext)
    (tAug 7 (tC (.int 1)) (ipI fun i j => i - j)))
def t_way_place_b2 (K : PySem.W.Frag) (C : Str → Addr) (E : XK) : TS :=
  (tSeq (tWhile (tTest (tOp (rI0 fun i j => .bl (decide (j < i))) (tOp (rIxL K) (tVar 3) (tOp (rI0 fun i j => .int (i - j)) (tVar 7) (tC (.int 1)))) (tVar 9))) (t_way_place_b1 K C E))
    (tAug 6 (tVar 9) (ipI fun i j => i - j)))
def t_way_place (K : PySem.W.Frag) (C : Str → Addr) (E : XK) : TS :=
  (tSeq (tAsg (tGo (sp_mirrored_to K C) (fun _ => E) (tCons (tVar 0) (tCons (tVar 1) tNil))) (gName 3))
    (tSeq (tDrop (tGo (sp_need_way K C) (fun _ => E) (tCons (tVar 0) (tCons (tVar 3) (tCons (tVar 2) tNil)))))
    (tSeq (tAsg (tGo (sp_counts_by K C) (fun _ => E0) (tCons (tVar 3) (tCons (tVar 0) (tCons (tCB (rLenL K) (tCons (tVar 2) tNil)) tNil)))) (gName 4))
    (tSeq (tAsg (tC (.int 0)) (gName 5))
    (tSeq (tAsg (tVar 0) (gName 6))
    (tSeq (tAsg (tCB (rLenL K) (tCons (tVar 3) tNil)) (gName 7))
    (tSeq (tFor (iEnum K (tCons (tVar 2) tNil)) (gTup K 2 (gCons (gName 8) (gCons (gName 9) gNil))) (t_way_place_b2 K C E))
    (tRet (tVar 5)))))))))
end Mi

namespace Mi
open PySem PySem.Spec PyProof.Rows L2
def sp_way_at (K : PySem.W.Frag) (C : Str → Addr) : Sp := fun vs H Q E => ∃ y x z u : V, vs = [y, x, z, u] ∧ NB K C H E x fun b => ∃ n m k : Nat, y = .int n ∧ z = .int m ∧ u = .int k ∧ n ≤ 1000 ∧ m ≤ 1000 ∧ (Wn (mirs b (n + 1)).reverse m n ≤ k → ∀ H', Led H [] H' → E (.ref (C "NoPlace")) none H') ∧
  ∀ l p H', (enw (mirs b (n + 1)) m (mirs b (n + 1)).length n)[k]? = some l → Led H [(p, .lst (nints l))] H' → Q (.ref p) H'
def t_way_at_b1 (K : PySem.W.Frag) (C : Str → Addr) (E : XK) : TS :=
  (tSeq (tAsg (tOp (rIxL K) (tVar 4) (tOp (rI0 fun i j => .int (i - j)) (tVar 9) (tC (.int 1)))) (gName 11))
    (tSeq (tAsg (tC (.int 0)) (gName 12))
    (Evl.tCut (tIfS (tTest (tOp (rI0 fun i j => .bl (decide (i ≤ j))) (tVar 11) (tVar 7))) (tAsg (tOp (rIxL K) (tOp (rIxL K) (tOp (rIxL K) (tVar 5) (tVar 9)) (tVar 10)) (tOp (rI0 fun i j => .int (i - j)) (tVar 7) (tVar 11))) (gName 12)) tNext)
    (tSeq (tIfS (tTest (tOp (rI0 fun i j => .bl (decide (i < j))) (tVar 8) (tVar 12))) tBreak tNext)
    (tSeq (tAug 8 (tVar 12) (ipI fun i j => i - j))
    (tAug 9 (tC (.int 1)) (ipI fun i j => i - j)))))))
def t_way_at_r2 (K : PySem.W.Frag) (C : Str → Addr) (E : XK) : TS :=
  (tSeq (tDrop (tBM K "list" rAppend (tVar 6) (tCons (tVar 11) tNil)))
    (tAug 7 (tVar 11) (ipI fun i j => i - j)))
def t_way_at_b3 (K : PySem.W.Frag) (C : Str → Addr) (E : XK) : TS :=
  (tSeq (tWhile (tB (tC (.bl true))) (t_way_at_b1 K C E))
    (t_way_at_r2 K C E))
def t_way_at (K : PySem.W.Frag) (C : Str → Addr) (E : XK) : TS :=
  (tSeq (tAsg (tGo (sp_mirrored_to K C) (fun _ => E) (tCons (tVar 0) (tCons (tVar 1) tNil))) (gName 4))
    (tSeq (tAsg (tGo (sp_counts_by K C) (fun _ => E0) (tCons (tVar 4) (tCons (tVar 0) (tCons (tVar 2) tNil)))) (gName 5))
    (tSeq (tIfS (tOr (tNot (tB (tCB (rIsiY K) (tCons (tVar 3) (tCons (tC (.ty "int")) tNil))))) (tOr (tB (tCB (rIsiY K) (tCons (tVar 3) (tCons (tC (.ty "bool")) tNil)))) (tNot (tTest (tChain (rI0 fun i j => .bl (decide (i ≤ j))) (rI0 fun i j => .bl (decide (i < j))) (tC (.int 0)) (tVar 3) (tOp (rIxL K) (tOp (rIxL K) (tOp (rIxL K) (tVar 5) (tUn (rU fun i => .int (-i)) (tC (.int 1)))) (tVar 2)) (tVar 0))))))) (tRaise0 E (.ref (C "NoPlace"))) tNext)
    (tSeq (tAsg (tLst tNil) (gName 6))
    (tSeq (tAsg (tVar 0) (gName 7))
    (tSeq (tAsg (tVar 3) (gName 8))
    (tSeq (tAsg (tCB (rLenL K) (tCons (tVar 4) tNil)) (gName 9))
    (tSeq (tFor (iRng3 (tCons (tOp (rI0 fun i j => .int (i - j)) (tVar 2) (tC (.int 1))) (tCons (tUn (rU fun i => .int (-i)) (tC (.int 1))) (tCons (tUn (rU fun i => .int (-i)) (tC (.int 1))) tNil)))) (gName 10) (t_way_at_b3 K C E))
    (tRet (tVar 6))))))))))
end Mi

namespace Mi
open PySem PySem.Spec PyProof.Rows L2
/-- the hands of the c-family -/
def hdO (d m : Nat) : HO := .lst [.int d, .int m]
def sp__law_hand_c (K : PySem.W.Frag) (C : Str → Addr) : Sp := fun vs H Q E => ∃ (c : Int) (k : Nat), vs = [.int c, .int k] ∧ k ≤ 1000 ∧ ∀ p H' (d m : Nat), m < 2147483563 → Led H [(p, hdO d m)] H' → Q (.ref p) H'
def sp__law_draw_c (K : PySem.W.Frag) (C : Str → Addr) : Sp := fun vs H Q E => ∃ (a : Addr) (d m l : Nat), vs = [.ref a, .int l] ∧ H a = some (hdO d m) ∧ m < 2147483563 ∧ 0 < l ∧ l < 1073741824 ∧
  ∀ H' (d' m' g : Nat), m' < 2147483563 → g < l → Led (rmv H a) [(a, hdO d' m')] H' → Q (.int g) H'
def sp__law_cells_c (K : PySem.W.Frag) (C : Str → Addr) : Sp := sp__law_cells K C
def t__law_hand_c (K : PySem.W.Frag) (C : Str → Addr) (E : XK) : TS :=
  (tSeq (tAsg (tC (.int 0)) (gName 2))
    (tSeq (tIfS (tTest (tOp (rI0 fun i j => .bl (decide (j ≤ i))) (tVar 0) (tOp (rI CPow fun i j => .int (i ^ j.toNat)) (tC (.int 10)) (tC (.int 18))))) (tAsg (tVar 0) (gName 2)) tNext)
    (tRet (tLst (tCons (tVar 2) (tCons (tOp (rI (fun _ j => 0 < j) fun i j => .int (i % j)) (tOp (rI CMul fun i j => .int (i * j)) (tOp (rI0 fun i j => .int (i + j)) (tOp (rI0 fun i j => .int (i + j)) (tOp (rI (fun _ j => 0 < j) fun i j => .int (i % j)) (tVar 0) (tC (.int 2147483563))) (tOp (rI CMul fun i j => .int (i * j)) (tC (.int 6271)) (tVar 1))) (tC (.int 3))) (tC (.int 40014))) (tC (.int 2147483563))) tNil))))))
def t__law_draw_c (K : PySem.W.Frag) (C : Str → Addr) (E : XK) : TS :=
  (tSeq (tIfS (tTest (tOp (rI0 fun i j => .bl (decide (j < i))) (tOp (rIxL K) (tVar 0) (tC (.int 0))) (tC (.int 0)))) (tSeq (tAsg (tOp (rI (fun _ j => 0 < j) fun i j => .int (i % j)) (tOp (rIxL K) (tVar 0) (tC (.int 0))) (tVar 1)) (gName 2))
    (tSeq (tAsg (tOp (rI CDiv fun i j => .int (i / j)) (tOp (rIxL K) (tVar 0) (tC (.int 0))) (tVar 1)) (gSub (tVar 0) (tC (.int 0)) rSetL))
    (tRet (tVar 2)))) tNext)
    (tSeq (tAsg (tOp (rI (fun _ j => 0 < j) fun i j => .int (i % j)) (tOp (rI0 fun i j => .int (i + j)) (tOp (rI0 fun i j => .int (i + j)) (tOp (rI CMul fun i j => .int (i * j)) (tOp (rIxL K) (tVar 0) (tC (.int 1))) (tOp (rIxL K) (tVar 0) (tC (.int 1)))) (tOp (rI CMul fun i j => .int (i * j)) (tC (.int 52774)) (tOp (rIxL K) (tVar 0) (tC (.int 1))))) (tC (.int 40692))) (tC (.int 2147483563))) (gSub (tVar 0) (tC (.int 1)) rSetL))
    (tRet (tOp (rI (fun _ j => 0 < j) fun i j => .int (i % j)) (tOp (rI CDiv fun i j => .int (i / j)) (tOp (rIxL K) (tVar 0) (tC (.int 1))) (tC (.int 16))) (tVar 1)))))
def t__law_cells_c (K : PySem.W.Frag) (C : Str → Addr) (E : XK) : TS :=
  (tRet (tListEnum K (tOp rCat (tSl (rSlL K) (tVar 0) tNoPart (tPart (tVar 1))) (tOp rRep (tLst (tCons (tC (.int 0)) tNil)) (tCB rInt1 (tCons (tOp (rEqLI K false) (tVar 0) (tLst tNil)) tNil))))))
end Mi

namespace Mi
open PySem PySem.Spec PyProof.Rows L2
def sp__law_base_c (K : PySem.W.Frag) (C : Str → Addr) : Sp := fun vs H Q E => ∃ (a : Addr) (d m : Nat), vs = [.ref a] ∧ H a = some (hdO d m) ∧ m < 2147483563 ∧
  ∀ H' (d' m' b : Nat), m' < 2147483563 → 2 ≤ b → b ≤ 36 → Led (rmv H a) [(a, hdO d' m')] H' → Q (.int b) H'
def sp__law_number_c (K : PySem.W.Frag) (C : Str → Addr) : Sp := fun vs H Q E => ∃ (a : Addr) (d m b most : Nat), vs = [.ref a, .int b, .int most] ∧ H a = some (hdO d m) ∧ m < 2147483563 ∧ 2 ≤ b ∧ b ≤ 36 ∧ 40 ≤ most ∧ most ≤ 1000000 ∧
  ∀ H' (d' m' g : Nat), m' < 2147483563 → g ≤ most → Led (rmv H a) [(a, hdO d' m')] H' → Q (.int g) H'
def sp__law_great_c (K : PySem.W.Frag) (C : Str → Addr) : Sp := fun vs H Q E => ∃ (a : Addr) (d m k few most : Nat), vs = [.ref a, .int k, .int few, .int most] ∧ H a = some (hdO d m) ∧ m < 2147483563 ∧
  ∀ H' (d' m' g : Nat), m' < 2147483563 → (g = few ∨ g = most) → Led (rmv H a) [(a, hdO d' m')] H' → Q (.int g) H'
def t__law_base_c (K : PySem.W.Frag) (C : Str → Addr) (E : XK) : TS :=
  (tSeq (tAsg (tGo (sp__law_draw_c K C) (fun _ => E0) (tCons (tVar 0) (tCons (tC (.int 36)) tNil))) (gName 1))
    (tRet (tOp (rIxL K) (tLst (tCons (tOp (rI0 fun i j => .int (i + j)) (tC (.int 2)) (tVar 1)) (tCons (tC (.int 10)) tNil))) (tCB rInt1 (tCons (tOp rEq (tVar 1) (tC (.int 35))) tNil)))))
def t__law_number_c_b1 (K : PySem.W.Frag) (C : Str → Addr) (E : XK) : TS :=
  (tIfS (tTest (tOp (rI0 fun i j => .bl (decide (i ≤ j))) (tOp (rI CMul fun i j => .int (i * j)) (tVar 4) (tVar 1)) (tVar 2))) (tAsg (tOp (rI CMul fun i j => .int (i * j)) (tVar 4) (tVar 1)) (gName 4)) tNext)
def t__law_number_c_r2 (K : PySem.W.Frag) (C : Str → Addr) (E : XK) : TS :=
  (tSeq (tIfS (tTest (tOp rEq (tVar 3) (tC (.int 6)))) (tRet (tVar 2)) tNext)
    (tSeq (tAsg (tLst (tCons (tVar 4) (tCons (tOp (rI CMul fun i j => .int (i * j)) (tVar 4) (tOp (rI0 fun i j => .int (i + j)) (tC (.int 1)) (tGo (sp__law_draw_c K C) (fun _ => E0) (tCons (tVar 0) (tCons (tVar 1) tNil))))) (tCons (tOp (rI0 fun i j => .int (i + j)) (tVar 4) (tOp (rI CDiv fun i j => .int (i / j)) (tVar 4) (tC (.int 2)))) tNil)))) (gName 6))
    (tRet (tCB rMax2 (tCons (tC (.int 0)) (tCons (tCB rMin2 (tCons (tVar 2) (tCons (tOp (rI0 fun i j => .int (i - j)) (tOp (rI0 fun i j => .int (i + j)) (tOp (rIxL K) (tVar 6) (tOp (rI0 fun i j => .int (i - j)) (tVar 3) (tC (.int 3)))) (tGo (sp__law_draw_c K C) (fun _ => E0) (tCons (tVar 0) (tCons (tC (.int 5)) tNil)))) (tC (.int 2))) tNil))) tNil))))))
def t__law_number_c (K : PySem.W.Frag) (C : Str → Addr) (E : XK) : TS :=
  (tSeq (tAsg (tGo (sp__law_draw_c K C) (fun _ => E0) (tCons (tVar 0) (tCons (tC (.int 7)) tNil))) (gName 3))
    (tSeq (tIfS (tTest (tOp (rI0 fun i j => .bl (decide (i < j))) (tVar 3) (tC (.int 3)))) (tRet (tGo (sp__law_draw_c K C) (fun _ => E0) (tCons (tVar 0) (tCons (tOp (rIxL K) (tLst (tCons (tC (.int 41)) (tCons (tOp (rI0 fun i j => .int (i + j)) (tVar 2) (tC (.int 1))) (tCons (tOp (rI0 fun i j => .int (i + j)) (tVar 2) (tC (.int 1))) tNil)))) (tVar 3)) tNil)))) tNext)
    (tSeq (tAsg (tC (.int 1)) (gName 4))
    (tSeq (tFor (iRng1 (tCons (tGo (sp__law_draw_c K C) (fun _ => E0) (tCons (tVar 0) (tCons (tC (.int 20)) tNil))) tNil)) (gName 5) (t__law_number_c_b1 K C E))
    (t__law_number_c_r2 K C E)))))
def t__law_great_c (K : PySem.W.Frag) (C : Str → Addr) (E : XK) : TS :=
  (tRet (tOp (rIxL K) (tLst (tCons (tVar 2) (tCons (tVar 3) tNil))) (tCB rInt1 (tCons (tAndV (tOp rEq (tVar 1) (tC (.int 0))) (tOp rEq (tGo (sp__law_draw_c K C) (fun _ => E0) (tCons (tVar 0) (tCons (tC (.int 8)) tNil))) (tC (.int 1)))) tNil))))
end Mi

/-! texts that are joined and split -/
namespace Mi
open PySem PySem.Spec PyProof.Rows L2
def rSplit : V → List V → Hp → VK → Prop := fun x xs H Q => ∃ a b, x = .str a ∧ xs = [.str b] ∧ (b.length == 0) = false ∧ a.length + 2 ≤ sizeLine ∧ rNewStrs (Txt.split a b) H Q
def tSplit (to te : TE) : TE := tM1 rSplit to te
def rJoin (K : PySem.W.Frag) : V → List V → Hp → VK → Prop := fun x xs H Q => ∃ a p, ∃ ys : List Str, x = .str a ∧ xs = [.ref p] ∧ (SqL K H p (ys.map V.str) ∨ SqT K H p (ys.map V.str)) ∧ (ys.map (·.length)).sum + ys.length * a.length ≤ 16777216 ∧ Q (.str (Txt.join a ys)) H
def tJoin (K : PySem.W.Frag) (to te : TE) : TE := tM1 (rJoin K) to te
section
variable {K : PySem.W.Frag} {σ : L2.St} {H : Hp} {Q : VK} {to te : TE}
theorem a_split : tSplit to te σ H Q = to σ H fun x H1 => (∃ a, x = .str a) ∧ te σ H1 fun y H2 => rSplit x [y] H2 Q := rfl
theorem a_join : tJoin K to te σ H Q = to σ H fun x H1 => (∃ a, x = .str a) ∧ te σ H1 fun y H2 => rJoin K x [y] H2 Q := rfl
theorem b_split {a b : Str} : rSplit (.str a) [.str b] H Q = ((b.length == 0) = false ∧ a.length + 2 ≤ sizeLine ∧ rNewStrs (Txt.split a b) H Q) :=
  propext ⟨fun ⟨a', b', e1, e2, h⟩ => by cases e1; cases e2; exact h, fun h => ⟨a, b, rfl, rfl, h⟩⟩
theorem b_join {a : Str} {p : Addr} : rJoin K (.str a) [.ref p] H Q = ∃ ys : List Str, (SqL K H p (ys.map V.str) ∨ SqT K H p (ys.map V.str)) ∧ (ys.map (·.length)).sum + ys.length * a.length ≤ 16777216 ∧ Q (.str (Txt.join a ys)) H :=
  propext ⟨fun ⟨a', b', ys, e1, e2, h⟩ => by cases e1; cases e2; exact ⟨ys, h⟩, fun ⟨ys, h⟩ => ⟨a, p, ys, rfl, rfl, h⟩⟩
theorem b_ixS {z : Str} {i : Int} : rIxS (.str z) (.int i) H Q = ∃ c, z.length ≤ sizeLine ∧ atI z.cps.toList i = some c ∧ Q (.str ⟨#[c]⟩) H :=
  propext ⟨fun ⟨a', b', c, e1, e2, h⟩ => by cases e1; cases e2; exact ⟨c, h⟩, fun ⟨c, h⟩ => ⟨z, i, c, rfl, rfl, h⟩⟩
theorem b_notInS {c : Nat} {z : Str} : rNotInS (.str ⟨#[c]⟩) (.str z) H Q = Q (.bl (!decide (c ∈ z.cps.toList))) H :=
  propext ⟨fun ⟨a', b', e1, e2, h⟩ => by cases e1; cases e2; exact h, fun h => ⟨c, z, rfl, rfl, h⟩⟩
theorem g_addS {i j : Str} : rAddS (.str i) (.str j) H Q = (i.length + j.length ≤ sizeLine ∧ Q (.str (i ++ j)) H) :=
  propext ⟨fun ⟨a', b', e1, e2, h⟩ => by cases e1; cases e2; exact h, fun h => ⟨i, j, rfl, rfl, h⟩⟩
end
end Mi

/-! a class with methods: made, asked, its field read and written; a tuple of the module -/
namespace Mi
open PySem PySem.Spec PyProof.Rows L2
/-- what a class of the text has that its instances' fields and methods go by -/
structure ClsF (K : PySem.W.Frag) (C : Str → Addr) (c : Str) : Prop where
  cl : Cls K (C c)
structure FldF (K : PySem.W.Frag) (C : Str → Addr) (c f : Str) : Prop where
  na : NoAttr K (C c) f
/-- a method keeps its promise -/
structure CalM (P : Program) (w : World) (K : PySem.W.Frag) (mg : Str → Option Value) (base : Heap) (C : Str → Addr) (k : Nat) (c m : Str) (sp : Sp) : Prop where
  ex : ∃ f : Addr, Meth K (C c) m f ∧ Fg P w K mg base k f sp
/-- a class is made by its name -/
structure MakF (K : PySem.W.Frag) (mg : Str → Option Value) (C : Str → Addr) (c : Str) : Prop where
  mk_ : PySem.W.makesIn K (C c) = true
  kp : PySem.W.keepIn K (.ref (C c)) = true
  at_ : mg c = some (.ref (C c))
/-- a tuple of the module -/
structure TupF (K : PySem.W.Frag) (mg : Str → Option Value) (C : Str → Addr) (c : Str) (xs : List V) : Prop where
  at_ : mg c = some (.ref (C c))
  sq : ∀ H, SqT K H (C c) xs
theorem tupK {K : PySem.W.Frag} {a : Addr} {od : Option Addr} {it : Array Value} {n : Nat} {sl : Array (Option Value)} {xs : List V} {H : Hp} (l : K.lookup a = some ⟨.type "tuple", od, .seq it n, sl⟩) (v : Vals xs it.toList) (h : xs.length ≤ 1000) : SqT K H a xs :=
  .inr ⟨_, it, n, l, rfl, rfl, by
    have e1 := v.length
    have e2 : it.toList.length = it.size := Array.length_toList
    exact Nat.le_trans (by rw [← e2, ← e1]; exact h) (show 1000 ≤ sizeLine by decide), v⟩
theorem Rm.make {k : Nat} {A : Around} (r : Rm (k + 1) A) (C : Addr) (us : List Value) : Rm k (A.under (.builtin "type.__call__" ⟨.ref C :: us, []⟩)) := ⟨r.rm.make C us [], by
  have := r.gd
  first | exact this | (simpa [Around.under, Code.envs, Code.isFrame, pushEnvs] using this)⟩
section
variable {X : Cx} {k : Nat} {c m f x : Str} {C : Str → Addr} {p pos apos pos' : Pos} {o e : Expr} {es : List Expr} {ta tv : TE} {t : TA} {sp : Sp} {E : L2.St → XK}
/-- o.m(e, ..) -/
def tMeG (Ca : Addr) (m : Str) (sp : Sp) (E : L2.St → XK) (ta : TE) (t : TA) : TE := fun σ H Q => ta σ H fun x H1 => ∃ a dx fs, x = .ref a ∧ H1 a = some (.ins Ca dx fs) ∧ fs.lookup m = none ∧
  t σ H1 fun vs H2 => sp (x :: vs) H2 Q (E σ)
theorem pe_meG {pl : Sem Bool} (cl : ClsF X.K C c) (M : CalM X.prog X.w X.K X.mg X.base C k c m sp) (hr : Rm k X.A) (hx : PasS X E) (he : PE X o ta) (ha : PA X (e :: es) t)
    (hst : starEach (e :: es) X.env = (false, eval e X.env) :: starEach es X.env := by rfl) (hpl : (backTo pos (starEach es X.env)).any (·.1) = false := by rfl)
    (ht : eval (.Call (.Attribute o m apos) (e :: es) [] pos) X.env = (do
      let ov ← eval o X.env
      standAt apos.atName
      let (f, first) ← holding [ov] (getMethod ov m pl)
      callWith pos f first (backTo pos (starEach (e :: es) X.env)) (backToKw pos (keywordEach [] X.env))) := by rfl) :
    PE X (.Call (.Attribute o m apos) (e :: es) [] pos) (tMeG (C c) m sp E ta t) := by
  obtain ⟨g, hm, F⟩ := M.ex
  constructor
  intro pins s σ H Q I h
  refine PySem.W.methodCall_KW (pl := pl) (thn (he.run pins s σ H _ I h) ?_) ht
  rintro u s1 ⟨y, H1, I1, ry, a, dx, fs, rfl, ea, l, q⟩
  cases (show u = Value.ref a from ry)
  apply getmeth_ok I1 ea cl.cl hm l
  refine PySem.W.callWith_K (first := [.ref a]) (h₀ := X.base) I.ok.mod.kin hm.kp ?_ hst hpl
  apply thn (ha.run pos pins s1 σ H1 _ I1 q)
  rintro us s2 ⟨vs, H2, I2, r, q2⟩
  exact ⟨I2.kIn, run_fg (vs := V.ref a :: vs) F hr hx I2 (.cons rfl r) q2⟩
/-- C(), an __init__ of its own -/
def tMkG (Ca : Addr) (sp : Sp) : TE := fun σ H Q => ∀ x dx, H x = none → H dx = none → dx ≠ x → sp [.ref x] (upd (upd H dx (.own x)) x (.ins Ca dx [])) (fun v H2 => v = .non ∧ Q (.ref x) H2) E0
theorem pe_mkG0 (M : MakF X.K X.mg C c) (N : CalM X.prog X.w X.K X.mg X.base C k c "__init__" sp) (hr : Rm (k + 1) X.A) (hg : Gl X c := by rfl) (hdb : (c == ("__debug__" : Str)) = false := by decide) :
    PE X (.Call (.Name c p) [] [] pos) (tMkG (C c) sp) := by
  obtain ⟨g, hm, F⟩ := N.ex
  constructor
  intro pins s σ H Q I h
  apply wpAny_Call_Name_kw
  apply ld_glob I hg M.at_ _ hdb
  refine PySem.W.callWith_K0 I.kIn M.kp ?_
  have hq := h (s.heap.objs.size + 1) s.heap.objs.size (I.hok.fresh (Nat.le_succ _)) (I.hok.fresh (Nat.le_refl _)) (Nat.ne_of_lt (Nat.lt_succ_self _))
  have I2 := Inv.made (C := C c) I
  apply wpAny_call
  refine make_map (f := g) I.kIn M.mk_ hm.at_ (beq_iff_eq.mp hm.fn) ?_
  apply codeAny_mono (F.run _ X.stack _ _ [Value.ref (s.heap.objs.size + 1)] [V.ref (s.heap.objs.size + 1)] _ _ (hr.make (C c) []) (I2.env0.make (C c) [] []) (.cons rfl .nil) hq)
  rintro (e | fl) r hq'
  · exact (passL pins σ _ _ e r I2 hq')
  · cases fl with
    | ret u =>
      obtain ⟨v, H', I3, rv, ev, q3⟩ := I2.after hq'
      subst ev
      exact ⟨rv, ⟨V.ref (s.heap.objs.size + 1), H', I3, rfl, q3⟩⟩
    | next => exact hq'.elim
    | brk => exact hq'.elim
    | cont => exact hq'.elim
/-- o.f -/
def tFdG (Ca : Addr) (ta : TE) (f : Str) : TE := fun σ H Q => ta σ H fun x H1 => ∃ a dx fs v, x = .ref a ∧ H1 a = some (.ins Ca dx fs) ∧ fs.lookup f = some v ∧ Q v H1
theorem pe_fdG (cl : ClsF X.K C c) (na : FldF X.K C c f) (he : PE X o ta) (hb : attributeBase o f X.env (eval o X.env) = eval o X.env := by rfl) : PE X (.Attribute o f pos) (tFdG (C c) ta f) := by
  constructor
  intro pins s σ H Q I h
  refine attr_of hb (thn (he.run pins s σ H _ I h) ?_)
  rintro u s1 ⟨y, H1, I1, ry, a, dx, fs, v, rfl, ea, l, q⟩
  cases (show u = Value.ref a from ry)
  exact getattr_ok I1 ea cl.cl na.na l fun u' s2 I2 ru => ⟨v, H1, I2, ru, q⟩
/-- o.f = e -/
def sFdG (Ca : Addr) (ta tv : TE) (f : Str) : TS := fun D σ H => tv σ H fun y H1 => ta σ H1 fun x H2 => ∃ a dx fs, x = .ref a ∧ H2 a = some (.ins Ca dx fs) ∧ fs.length < 1000 ∧ D.nx σ (upd H2 a (.ins Ca dx (putF f y fs)))
theorem ps_fdG (cl : ClsF X.K C c) (na : FldF X.K C c f) (ha : PE X o ta) (hv : PE X e tv) (hs : swapsWith e (some (.Attribute o f pos')) pos.line X.env = pure false := by rfl) : PS X (.Assign [.Attribute o f pos'] e pos) (sFdG (C c) ta tv f) := by
  constructor
  intro pins s σ H D I h
  refine plainObj_wpAny_Assign_Attribute ?_ hs
  apply thn (hv.run pins s σ H _ I h)
  rintro u s1 ⟨y, H1, I1, ry, q⟩
  apply thn (ha.run pins s1 σ H1 _ I1 q)
  rintro ov s2 ⟨z, H2, I2, rz, a, dx, fs, rfl, ea, l, q2⟩
  cases (show ov = Value.ref a from rz)
  exact setattr_ok I2 ea cl.cl na.na l ry fun s3 I3 => ⟨σ, _, I3, q2⟩
/-- a tuple of the module -/
def tTupG (K : PySem.W.Frag) (xs : List V) : TE := fun σ H Q => ∀ a, SqT K H a xs → Q (.ref a) H
theorem pe_tupG {xs : List V} (T : TupF X.K X.mg C c xs) (hg : Gl X c := by rfl) (hd : (c == ("__debug__" : Str)) = false := by decide) : PE X (.Name c pos) (tTupG X.K xs) :=
  ⟨fun _ _ _ H _ I h => ld_glob I hg T.at_ ⟨.ref (C c), H, I, rfl, h _ (T.sq H)⟩ hd⟩
/-- .upper() -/
def tUpper (to : TE) : TE := fun σ H Q => to σ H fun x H1 => ∃ z : Str, x = .str z ∧ z.length ≤ 5592405 ∧ Q (.str (Txt.upper z)) H1
theorem pe_upper (ho : PE X o ta) (hbase : attributeBase o "upper" X.env (eval o X.env) = eval o X.env := by rfl) (hline : (apos.endLine == pos.line) = true := by rfl) : PE X (.Call (.Attribute o "upper" apos) [] [] pos) (tUpper ta) := by
  constructor
  intro pins s σ H Q I h
  refine wpAny_Call_method0_late hbase hline (thn (ho.run pins s σ H _ I h) ?_)
  rintro v s1 ⟨x, H1, I1, rx, z, rfl, hz, q⟩
  obtain ⟨t, rfl⟩ := (show ∃ t, v = Value.str z t from rx)
  exact ⟨"str", _, PySem.F.plainAttrs_str, PySem.F.slot_str_upper, PySem.F.type_str_upper, typeIs_str _ _ _, (fun _ e => nomatch e), Calls.callWith_builtin rfl (PySem.evalArgs_none (PySem.SC.upper (PyProof.Rows.short24 (by have := PyProof.Rows.len_upper z; omega)) ⟨.str _, H1, I1.tok _, ⟨_, rfl⟩, q⟩))⟩
theorem a_fdG {Ca : Addr} {σ : L2.St} {H : Hp} {Q : VK} : tFdG Ca ta f σ H Q = ta σ H fun x H1 => ∃ a dx fs v, x = .ref a ∧ H1 a = some (.ins Ca dx fs) ∧ fs.lookup f = some v ∧ Q v H1 := rfl
theorem a_meG {Ca : Addr} {σ : L2.St} {H : Hp} {Q : VK} : tMeG Ca m sp E ta t σ H Q = ta σ H fun x H1 => ∃ a dx fs, x = .ref a ∧ H1 a = some (.ins Ca dx fs) ∧ fs.lookup m = none ∧ t σ H1 fun vs H2 => sp (x :: vs) H2 Q (E σ) := rfl
theorem a_mkG {Ca : Addr} {σ : L2.St} {H : Hp} {Q : VK} : tMkG Ca sp σ H Q = ∀ x dx, H x = none → H dx = none → dx ≠ x → sp [.ref x] (upd (upd H dx (.own x)) x (.ins Ca dx [])) (fun v H2 => v = .non ∧ Q (.ref x) H2) E0 := rfl
theorem a_sfdG {Ca : Addr} {D : Ends} {σ : L2.St} {H : Hp} : sFdG Ca ta tv f D σ H = tv σ H fun y H1 => ta σ H1 fun x H2 => ∃ a dx fs, x = .ref a ∧ H2 a = some (.ins Ca dx fs) ∧ fs.length < 1000 ∧ D.nx σ (upd H2 a (.ins Ca dx (putF f y fs))) := rfl
theorem a_tupG {K : PySem.W.Frag} {xs : List V} {σ : L2.St} {H : Hp} {Q : VK} : tTupG K xs σ H Q = ∀ a, SqT K H a xs → Q (.ref a) H := rfl
theorem a_upper {to : TE} {σ : L2.St} {H : Hp} {Q : VK} : tUpper to σ H Q = to σ H fun x H1 => ∃ z : Str, x = .str z ∧ z.length ≤ 5592405 ∧ Q (.str (Txt.upper z)) H1 := rfl
theorem a_par {i j : Nat} {D : Ends} {σ : L2.St} {H : Hp} : tPar i j t D σ H = t σ H fun vs H1 => ∃ v w, vs = [v, w] ∧ D.nx ((σ.set i (some v)).set j (some w)) H1 := rfl
end
end Mi

namespace Mi
open PySem PySem.Spec PyProof.Rows L2
/-- the text of a number -/
def dT (n : Nat) : Str := Str.ofString (toString ((n : Nat) : Int))
/-- the text of a way -/
def wT (l : List Nat) : Str := if l = [] then "0" else Txt.join " + " (l.map dT)
/-- a deck -/
def dkO (d : Int) (f c : Nat) : HO := .lst [.int d, .int (f : Nat), .int (c : Nat)]
def sp__law_deck_e (K : PySem.W.Frag) (C : Str → Addr) : Sp := fun vs H Q E => ∃ (c : Int) (k : Nat), vs = [.int c, .int k] ∧ ∀ p H' (d : Int) (f : Nat), f ≤ 1 → Led H [(p, dkO d f k)] H' → Q (.ref p) H'
def sp__law_take_e (K : PySem.W.Frag) (C : Str → Addr) : Sp := fun vs H Q E => ∃ (a : Addr) (d : Int) (f c m : Nat), vs = [.ref a, .int m] ∧ H a = some (dkO d f c) ∧ f ≤ 1 ∧ c ≤ 1000000 ∧ 0 < m ∧ m ≤ 1000000000 ∧
  ∀ H' (d' : Int) (c' g : Nat), c' ≤ c + 1 → g < m → Led (rmv H a) [(a, dkO d' f c')] H' → Q (.int g) H'
/-- a text of figures, as a number is written -/
structure NumOk (z : Str) : Prop where
  lo : 1 ≤ z.length
  hi : z.length ≤ 41
  hd : ¬ (z.cps.toList.head? = some 48 ∧ z ≠ "0")
  dg : PySem.NumText.AllDigits z.cps.toList
/-- it writes n, to a bound -/
def NumIs (z : Str) (most n : Nat) : Prop := NumOk z ∧ PySem.NumText.digitsVal z.cps.toList = n ∧ n ≤ most
def sp_number_in (K : PySem.W.Frag) (C : Str → Addr) : Sp := fun vs H Q E => ∃ (z : Str) (most : Nat), vs = [.str z, .int (most : Nat)] ∧ z.length ≤ 100000 ∧ (∀ n, NumIs z most n → ∀ H', Led H [] H' → Q (.int (n : Nat)) H') ∧
  ((∀ n, ¬ NumIs z most n) → ∀ H', Led H [] H' → E (.ref (C "NoCommand")) none H')
def sp_show_way_dk (K : PySem.W.Frag) (C : Str → Addr) : Sp := fun vs H Q E => ∃ (a : Addr) (l : List Nat), vs = [.ref a] ∧ SqL K H a (nints l) ∧ l.length ≤ 1000 ∧ (∀ d ∈ l, d ≤ 10 ^ 40) ∧ ∀ H', Led H [] H' → Q (.str (wT l)) H'
/-- a desk -/
def dsk (C : Str → Addr) (dx : Addr) (b : Nat) : HO := .ins (C "Desk") dx [("base", .int (b : Nat))]
inductive Ans where
  | txt (t : Str)
  | no (c : String)
  | base (b : Nat)
def Out (C : Str → Addr) (H : Hp) (p dx : Addr) (Q : VK) (E : XK) (P : Ans → Prop) : Prop := (∀ t H', P (.txt t) → Led H [] H' → Q (.str t) H') ∧ (∀ c H', P (.no c) → Led H [] H' → E (.ref (C c)) none H') ∧
  ∀ b H', P (.base b) → Led (rmv H p) [(p, dsk C dx b)] H' → Q (.str "ok") H'
def heads : List Str := ["base", "figures", "is", "below", "above", "count", "at", "place", "few", "two", "fewest"]
def mostH (h : Str) : Nat := if h = "at" then 10 ^ 20 else if h = "two" then 10 ^ 6 else if h = "fewest" then 10 ^ 6 else 10 ^ 40
def nearT (b : Nat) (h : Str) (n : Nat) : Str := if h = "below" then dT (lowM b n) else if h = "above" then dT (highM b n) else dT (cnt b n)
/-- the answer of a row of a number -/
def AnsT (b : Nat) (h : Str) (n : Nat) (t : Str) : Prop :=
  if h = "at" then ∃ r, mir b r = true ∧ cnt b r = n ∧ t = dT r
  else if h = "two" then t = dT (twos b n).length
  else if h = "fewest" then ∃ l, Few b n l ∧ t = wT l
  else if h = "figures" then t = Txt.join " " ((figs b n).map dT)
  else if h = "is" then t = if mir b n = true then "yes" else "no"
  else if h = "few" then t = wT (fews b n)
  else t = nearT b h n
def OneA (b : Nat) (h w : Str) (a : Ans) : Prop :=
  ((∀ n, ¬ NumIs w (mostH h) n) ∧ a = .no "NoCommand") ∨ ∃ n, NumIs w (mostH h) n ∧
    if h = "base" then (if 2 ≤ n ∧ n ≤ 36 then a = .base n else a = .no "NoBase") else if h = "place" ∧ mir b n = false then a = .no "NoMirror" else ∃ t, AnsT b h n t ∧ a = .txt t
def NoRow (ps : List Str) : Prop := (∀ h w, ps = [h, w] → h ∉ heads) ∧ (∀ x y : Str, ps ≠ [("ways" : Str), x, y]) ∧ ∀ x y z : Str, ps ≠ [("way" : Str), x, y, z]
inductive SayL (b : Nat) : List Str → Ans → Prop where
  | one {h w : Str} {a : Ans} : h ∈ heads → OneA b h w a → SayL b [h, w] a
  | ways {x y : Str} {n m : Nat} : NumIs x 500 n → NumIs y 12 m → SayL b ["ways", x, y] (.txt (dT (Wn (mirs b (n + 1)).reverse m n)))
  | way {x y z : Str} {n m k : Nat} {l : List Nat} : NumIs x 500 n → NumIs y 12 m → NumIs z (10 ^ 40) k → (waysN b n m)[k]? = some l → SayL b ["way", x, y, z] (.txt (wT l))
  | place {x y z : Str} {n m k : Nat} : NumIs x 500 n → NumIs y 12 m → NumIs z (10 ^ 40) k → Wn (mirs b (n + 1)).reverse m n ≤ k → SayL b ["way", x, y, z] (.no "NoPlace")
  | num1 {x y : Str} : (∀ n, ¬ NumIs x 500 n) ∨ (∀ m, ¬ NumIs y 12 m) → SayL b ["ways", x, y] (.no "NoCommand")
  | num2 {x y z : Str} : (∀ n, ¬ NumIs x 500 n) ∨ (∀ m, ¬ NumIs y 12 m) ∨ (∀ k, ¬ NumIs z (10 ^ 40) k) → SayL b ["way", x, y, z] (.no "NoCommand")
  | row {ps : List Str} : NoRow ps → SayL b ps (.no "NoCommand")
def SayA (b : Nat) (x : V) (a : Ans) : Prop := (∃ z, x = .str z ∧ SayL b (Txt.split z " ") a) ∨ ((∀ z, x ≠ .str z) ∧ a = .no "NoCommand")
/-- no text -/
def NoStr (K : PySem.W.Frag) (H : Hp) (x : V) : Prop := (∀ z, x ≠ .str z) ∧ ∃ t, TyY K H x t ∧ PySem.W.kitOne K t (.type "str") = some false
def sp_Desk_init (K : PySem.W.Frag) (C : Str → Addr) : Sp := fun vs H Q E => ∃ p dx : Addr, vs = [.ref p] ∧ H p = some (.ins (C "Desk") dx []) ∧ ∀ H', Led (rmv H p) [(p, dsk C dx 10)] H' → Q .non H'
def sp_Desk_new_base (K : PySem.W.Frag) (C : Str → Addr) : Sp := fun vs H Q E => ∃ (p dx : Addr) (b n : Nat), vs = [.ref p, .int (n : Nat)] ∧ H p = some (dsk C dx b) ∧ (2 ≤ n ∧ n ≤ 36 → ∀ H', Led (rmv H p) [(p, dsk C dx n)] H' → Q (.str "ok") H') ∧
  (¬ (2 ≤ n ∧ n ≤ 36) → ∀ H', Led H [] H' → E (.ref (C "NoBase")) none H')
def sp_Desk_nearby (K : PySem.W.Frag) (C : Str → Addr) : Sp := fun vs H Q E => ∃ (p dx : Addr) (b n : Nat) (h : Str), vs = [.ref p, .str h, .int (n : Nat)] ∧ H p = some (dsk C dx b) ∧ 2 ≤ b ∧ b ≤ 36 ∧ n ≤ 10 ^ 40 ∧ (h = "below" ∨ h = "above" ∨ h = "count" ∨ h = "place") ∧
  (¬ (h = "place" ∧ mir b n = false) → ∀ H', Led H [] H' → Q (.str (nearT b h n)) H') ∧ (h = "place" ∧ mir b n = false → ∀ H', Led H [] H' → E (.ref (C "NoMirror")) none H')
def sp_Desk_of_a_number (K : PySem.W.Frag) (C : Str → Addr) : Sp := fun vs H Q E => ∃ (p dx : Addr) (b : Nat) (h w : Str), vs = [.ref p, .str h, .str w] ∧ H p = some (dsk C dx b) ∧ 2 ≤ b ∧ b ≤ 36 ∧ h ∈ heads ∧ w.length ≤ 100000 ∧ Out C H p dx Q E (OneA b h w)
def sp_Desk_say (K : PySem.W.Frag) (C : Str → Addr) : Sp := fun vs H Q E => ∃ (p dx : Addr) (b : Nat) (x : V), vs = [.ref p, x] ∧ H p = some (dsk C dx b) ∧ 2 ≤ b ∧ b ≤ 36 ∧ (∀ z, x = .str z → z.length ≤ 50000) ∧ ((∃ z, x = .str z) ∨ NoStr K H x) ∧ Out C H p dx Q E (SayA b x)
def t__law_deck_e (K : PySem.W.Frag) (C : Str → Addr) (E : XK) : TS :=
  (tSeq (tIfS (tTest (tOp (rI0 fun i j => .bl (decide (j ≤ i))) (tVar 0) (tOp (rI CPow fun i j => .int (i ^ j.toNat)) (tC (.int 10)) (tC (.int 18))))) (tRet (tLst (tCons (tOp (rI0 fun i j => .int (i - j)) (tVar 0) (tOp (rI CPow fun i j => .int (i ^ j.toNat)) (tC (.int 10)) (tC (.int 18)))) (tCons (tC (.int 0)) (tCons (tVar 1) tNil))))) tNext)
    (tRet (tLst (tCons (tVar 0) (tCons (tC (.int 1)) (tCons (tVar 1) tNil))))))
def t__law_take_e (K : PySem.W.Frag) (C : Str → Addr) (E : XK) : TS :=
  (tSeq (tIfS (tTest (tOp rEq (tOp (rIxL K) (tVar 0) (tC (.int 1))) (tC (.int 0)))) (tSeq (tAsg (tOp (rI (fun _ j => 0 < j) fun i j => .int (i % j)) (tOp (rIxL K) (tVar 0) (tC (.int 0))) (tVar 1)) (gName 3))
    (tSeq (tAsg (tOp (rI CDiv fun i j => .int (i / j)) (tOp (rIxL K) (tVar 0) (tC (.int 0))) (tVar 1)) (gSub (tVar 0) (tC (.int 0)) rSetL))
    (tRet (tVar 3)))) tNext)
    (tSeq (tAsg (tOp (rI0 fun i j => .int (i + j)) (tOp (rIxL K) (tVar 0) (tC (.int 2))) (tC (.int 1))) (gSub (tVar 0) (tC (.int 2)) rSetL))
    (tSeq (tAsg (tOp (rI CMul fun i j => .int (i * j)) (tOp (rI (fun _ j => 0 < j) fun i j => .int (i % j)) (tOp (rIxL K) (tVar 0) (tC (.int 0))) (tC (.int 2147483647))) (tOp (rI0 fun i j => .int (i + j)) (tOp (rI CMul fun i j => .int (i * j)) (tOp (rIxL K) (tVar 0) (tC (.int 2))) (tOp (rIxL K) (tVar 0) (tC (.int 2)))) (tC (.int 48271)))) (gName 2))
    (tSeq (tAsg (tOp (rI (fun _ j => 0 < j) fun i j => .int (i % j)) (tOp (rI0 fun i j => .int (i + j)) (tOp (rI0 fun i j => .int (i + j)) (tVar 2) (tOp (rIxL K) (tVar 0) (tC (.int 2)))) (tC (.int 7))) (tC (.int 2147483629))) (gName 2))
    (tSeq (tAsg (tOp (rI (fun _ j => 0 < j) fun i j => .int (i % j)) (tOp (rI CMul fun i j => .int (i * j)) (tVar 2) (tVar 2)) (tC (.int 2147483587))) (gName 2))
    (tRet (tOp (rI (fun _ j => 0 < j) fun i j => .int (i % j)) (tOp (rI CDiv fun i j => .int (i / j)) (tOp (rI (fun _ j => 0 < j) fun i j => .int (i % j)) (tOp (rI CMul fun i j => .int (i * j)) (tVar 2) (tC (.int 69621))) (tC (.int 2147483563))) (tC (.int 8))) (tVar 1))))))))
def t_number_in_b1 (K : PySem.W.Frag) (C : Str → Addr) (E : XK) : TS :=
  (tIfS (tTest (tOp rNotInS (tVar 2) (tC (.str "0123456789")))) (tRaise0 E (.ref (C "NoCommand"))) tNext)
def t_number_in_r2 (K : PySem.W.Frag) (C : Str → Addr) (E : XK) : TS :=
  (tSeq (tAsg (tCB rIntS (tCons (tVar 0) tNil)) (gName 3))
    (tSeq (tIfS (tTest (tOp (rI0 fun i j => .bl (decide (j < i))) (tVar 3) (tVar 1))) (tRaise0 E (.ref (C "NoCommand"))) tNext)
    (tRet (tVar 3))))
def t_number_in (K : PySem.W.Frag) (C : Str → Addr) (E : XK) : TS :=
  (tSeq (tIfS (tOr (tNot (tTest (tChain (rI0 fun i j => .bl (decide (i ≤ j))) (rI0 fun i j => .bl (decide (i ≤ j))) (tC (.int 1)) (tCB rLenT (tCons (tVar 0) tNil)) (tC (.int 41))))) (tAnd (tTest (tOp rEq (tOp rIxS (tVar 0) (tC (.int 0))) (tC (.str "0")))) (tTest (tOp rNe (tVar 0) (tC (.str "0")))))) (tRaise0 E (.ref (C "NoCommand"))) tNext)
    (tSeq (tFor (iStr (tVar 0)) (gName 2) (t_number_in_b1 K C E))
    (t_number_in_r2 K C E)))
def t_show_way_dk (K : PySem.W.Frag) (C : Str → Addr) (E : XK) : TS :=
  (tSeq (tIfS (tTest (tOp (rEqLI K false) (tVar 0) (tLst tNil))) (tRet (tC (.str "0"))) tNext)
    (tRet (tJoin K (tC (.str " + ")) (tLc (iList K (tVar 0)) (gName 1) tYes (tCB rStrI (tCons (tVar 1) tNil)) [1]))))
def t_Desk_init (K : PySem.W.Frag) (C : Str → Addr) (E : XK) : TS :=
  (sFdG (C "Desk") (tVar 0) (tC (.int 10)) "base")
def t_Desk_new_base (K : PySem.W.Frag) (C : Str → Addr) (E : XK) : TS :=
  (tSeq (tIfS (tNot (tTest (tChain (rI0 fun i j => .bl (decide (i ≤ j))) (rI0 fun i j => .bl (decide (i ≤ j))) (tC (.int 2)) (tVar 1) (tC (.int 36))))) (tRaise0 E (.ref (C "NoBase"))) tNext)
    (tSeq (sFdG (C "Desk") (tVar 0) (tVar 1) "base")
    (tRet (tC (.str "ok")))))
def t_Desk_nearby (K : PySem.W.Frag) (C : Str → Addr) (E : XK) : TS :=
  (tSeq (tIfS (tTest (tOp rEq (tVar 1) (tC (.str "below")))) (tRet (tCB rStrI (tCons (tGo (sp_at_most K C) (fun _ => E) (tCons (tVar 2) (tCons (tFdG (C "Desk") (tVar 0) "base") tNil))) tNil))) tNext)
    (tSeq (tIfS (tTest (tOp rEq (tVar 1) (tC (.str "above")))) (tRet (tCB rStrI (tCons (tGo (sp_at_least K C) (fun _ => E) (tCons (tVar 2) (tCons (tFdG (C "Desk") (tVar 0) "base") tNil))) tNil))) tNext)
    (tSeq (tIfS (tTest (tOp rEq (tVar 1) (tC (.str "count")))) (tRet (tCB rStrI (tCons (tGo (sp_many_to K C) (fun _ => E) (tCons (tVar 2) (tCons (tFdG (C "Desk") (tVar 0) "base") tNil))) tNil))) tNext)
    (tRet (tCB rStrI (tCons (tGo (sp_place_of K C) (fun _ => E) (tCons (tVar 2) (tCons (tFdG (C "Desk") (tVar 0) "base") tNil))) tNil))))))
def t_Desk_of_a_number_r1 (K : PySem.W.Frag) (C : Str → Addr) (E : XK) : TS :=
  (tSeq (tIfS (tTest (tOp rEq (tVar 1) (tC (.str "is")))) (tRet (tIf (tB (tGo (sp_is_mirrored K C) (fun _ => E) (tCons (tVar 3) (tCons (tFdG (C "Desk") (tVar 0) "base") tNil)))) (tC (.str "yes")) (tC (.str "no")))) tNext)
    (tSeq (tIfS (tTest (tOp rEq (tVar 1) (tC (.str "few")))) (tRet (tGo (sp_show_way_dk K C) (fun _ => E0) (tCons (tGo (sp_a_few K C) (fun _ => E) (tCons (tVar 3) (tCons (tFdG (C "Desk") (tVar 0) "base") tNil))) tNil))) tNext)
    (tRet (tMeG (C "Desk") "nearby" (sp_Desk_nearby K C) (fun _ => E) (tVar 0) (tCons (tVar 1) (tCons (tVar 3) tNil))))))
def t_Desk_of_a_number (K : PySem.W.Frag) (C : Str → Addr) (E : XK) : TS :=
  (tSeq (tIfS (tTest (tOp rEq (tVar 1) (tC (.str "at")))) (tRet (tCB rStrI (tCons (tGo (sp_mirrored_at K C) (fun _ => E) (tCons (tGo (sp_number_in K C) (fun _ => E) (tCons (tVar 2) (tCons (tC (.int 100000000000000000000)) tNil))) (tCons (tFdG (C "Desk") (tVar 0) "base") tNil))) tNil))) tNext)
    (tSeq (tIfS (tTest (tOp rEq (tVar 1) (tC (.str "two")))) (tRet (tCB rStrI (tCons (tGo (sp_many_by_two K C) (fun _ => E) (tCons (tGo (sp_number_in K C) (fun _ => E) (tCons (tVar 2) (tCons (tC (.int 1000000)) tNil))) (tCons (tFdG (C "Desk") (tVar 0) "base") tNil))) tNil))) tNext)
    (tSeq (tIfS (tTest (tOp rEq (tVar 1) (tC (.str "fewest")))) (tRet (tGo (sp_show_way_dk K C) (fun _ => E0) (tCons (tGo (sp_fewest K C) (fun _ => E) (tCons (tGo (sp_number_in K C) (fun _ => E) (tCons (tVar 2) (tCons (tC (.int 1000000)) tNil))) (tCons (tFdG (C "Desk") (tVar 0) "base") tNil))) tNil))) tNext)
    (tSeq (tAsg (tGo (sp_number_in K C) (fun _ => E) (tCons (tVar 2) (tCons (tC (.int 10000000000000000000000000000000000000000)) tNil))) (gName 3))
    (tSeq (tIfS (tTest (tOp rEq (tVar 1) (tC (.str "base")))) (tRet (tMeG (C "Desk") "new_base" (sp_Desk_new_base K C) (fun _ => E) (tVar 0) (tCons (tVar 3) tNil))) tNext)
    (tSeq (tIfS (tTest (tOp rEq (tVar 1) (tC (.str "figures")))) (tRet (tJoin K (tC (.str " ")) (tLc (iList K (tGo (sp_figures K C) (fun _ => E) (tCons (tVar 3) (tCons (tFdG (C "Desk") (tVar 0) "base") tNil)))) (gName 4) tYes (tCB rStrI (tCons (tVar 4) tNil)) [4]))) tNext)
    (t_Desk_of_a_number_r1 K C E)))))))
def t_Desk_say_r1 (K : PySem.W.Frag) (C : Str → Addr) (E : XK) : TS :=
  (tRet (tGo (sp_show_way_dk K C) (fun _ => E0) (tCons (tGo (sp_way_at K C) (fun _ => E) (tCons (tVar 3) (tCons (tFdG (C "Desk") (tVar 0) "base") (tCons (tVar 4) (tCons (tGo (sp_number_in K C) (fun _ => E) (tCons (tOp (rIxL K) (tVar 2) (tC (.int 3))) (tCons (tC (.int 10000000000000000000000000000000000000000)) tNil))) tNil))))) tNil)))
def t_Desk_say_r2 (K : PySem.W.Frag) (C : Str → Addr) (E : XK) : TS :=
  (tSeq (tIfS (tTest (tOp rEq (tOp (rIxL K) (tVar 2) (tC (.int 0))) (tC (.str "ways")))) (tRet (tCB rStrI (tCons (tGo (sp_many_ways K C) (fun _ => E) (tCons (tVar 3) (tCons (tFdG (C "Desk") (tVar 0) "base") (tCons (tVar 4) tNil)))) tNil))) tNext)
    (t_Desk_say_r1 K C E))
def t_Desk_say_r3 (K : PySem.W.Frag) (C : Str → Addr) (E : XK) : TS :=
  (tSeq (tPar 3 4 (tCons (tGo (sp_number_in K C) (fun _ => E) (tCons (tOp (rIxL K) (tVar 2) (tC (.int 1))) (tCons (tC (.int 500)) tNil))) (tCons (tGo (sp_number_in K C) (fun _ => E) (tCons (tOp (rIxL K) (tVar 2) (tC (.int 2))) (tCons (tC (.int 12)) tNil))) tNil)))
    (t_Desk_say_r2 K C E))
def t_Desk_say_r4 (K : PySem.W.Frag) (C : Str → Addr) (E : XK) : TS :=
  (tSeq (tIfS (tOr (tTest (tOp (rIn K true) (tOp (rIxL K) (tVar 2) (tC (.int 0))) (tTup (tCons (tC (.str "ways")) (tCons (tC (.str "way")) tNil))))) (tTest (tOp rNe (tCB (rLenL K) (tCons (tVar 2) tNil)) (tOp (rI0 fun i j => .int (i + j)) (tC (.int 3)) (tCB rInt1 (tCons (tOp rEq (tOp (rIxL K) (tVar 2) (tC (.int 0))) (tC (.str "way"))) tNil)))))) (tRaise0 E (.ref (C "NoCommand"))) tNext)
    (t_Desk_say_r3 K C E))
def t_Desk_say_r5 (K : PySem.W.Frag) (C : Str → Addr) (E : XK) : TS :=
  (tSeq (tIfS (tAnd (tTest (tOp (rIn K false) (tOp (rIxL K) (tVar 2) (tC (.int 0))) (tTupG K [.str "base", .str "figures", .str "is", .str "below", .str "above", .str "count", .str "at", .str "place", .str "few", .str "two", .str "fewest"]))) (tTest (tOp rEq (tCB (rLenL K) (tCons (tVar 2) tNil)) (tC (.int 2))))) (tRet (tMeG (C "Desk") "of_a_number" (sp_Desk_of_a_number K C) (fun _ => E) (tVar 0) (tCons (tOp (rIxL K) (tVar 2) (tC (.int 0))) (tCons (tOp (rIxL K) (tVar 2) (tC (.int 1))) tNil)))) tNext)
    (t_Desk_say_r4 K C E))
def t_Desk_say_r6 (K : PySem.W.Frag) (C : Str → Addr) (E : XK) : TS :=
  (tSeq (tAsg (tSplit (tVar 1) (tC (.str " "))) (gName 2))
    (t_Desk_say_r5 K C E))
def t_Desk_say (K : PySem.W.Frag) (C : Str → Addr) (E : XK) : TS :=
  (tSeq (tIfS (tNot (tB (tCB (rIsiY K) (tCons (tVar 1) (tCons (tC (.ty "str")) tNil))))) (tRaise0 E (.ref (C "NoCommand"))) tNext)
    (t_Desk_say_r6 K C E))
end Mi

namespace Mi
open PySem PySem.Spec PyProof.Rows L2
local macro_rules
  | `(tactic| walk_at "w") => `(tactic| try simp only [↓a_dget, ↓v_0, ↓n_0, ↓u_0, ↓v_1, ↓n_1, ↓u_1, ↓v_2, ↓n_2, ↓u_2, ↓v_3, ↓n_3, ↓u_3, ↓v_4, ↓n_4, ↓u_4, ↓v_5, ↓n_5, ↓u_5, ↓v_6, ↓n_6, ↓u_6, ↓v_7, ↓n_7, ↓u_7, ↓v_8, ↓n_8, ↓u_8, ↓v_9, ↓n_9, ↓u_9, ↓v_10, ↓n_10, ↓u_10, ↓v_11, ↓n_11, ↓u_11, ↓v_12, ↓n_12, ↓u_12, ↓v_13, ↓n_13, ↓u_13, ↓v_14, ↓n_14, ↓u_14, ↓v_15, ↓n_15, ↓u_15, ↓v_16, ↓n_16, ↓u_16, ↓v_17, ↓n_17, ↓u_17, ↓v_18, ↓n_18, ↓u_18, ↓v_19, ↓n_19, ↓u_19, ↓a_go, ↓g_int, ↓g_bl, ↓g_ref, ↓g_str, ↓g_rI, ↓g_rI0, ↓g_rU, ↓g_ipI, ↓g_cat, ↓g_ixL, ↓g_ixT, ↓g_slL, ↓g_append, ↓a_excV, ↓a_dispC, ↓a_dispV, ↓a_seq, ↓a_next, ↓a_tru, tru_bl, ↓b_isB, ↓b_notB, b_mulS, b_addS, b_intS, ↓b_lstRg, ↓b_rg1, ↓b_rg2, ↓a_to, b_geLI, b_dictP, ↓a_dIn, ↓a_dNotIn, b_popAt, b_abs, ↓a_glst, a_sortSet, ↓a_dput, ↓a_dnewK, ↓a_dnewT, b_sortI, ↓a_iR3, b_reprV, b_countD, ↓isi_ii, ↓isi_ib, ↓isi_bi, ↓isi_bb, ↓a_asg, ↓a_c, ↓a_op, ↓a_un, ↓a_ret, ↓a_retN, ↓a_ifS, ↓a_drop, ↓a_test, ↓a_B, ↓a_and, ↓a_or, ↓a_not, ↓a_andV, ↓a_orV, ↓a_notV, ↓a_ifE, ↓a_nil, ↓a_cons, ↓a_lst, ↓a_tup, ↓a_cb, ↓a_bm, ↓a_bm0, ↓a_sl, ↓a_po, ↓a_pn, ↓a_gsub, ↓a_gnil, ↓a_gcons, ↓a_gtup, ↓a_chain, ↓a_eq, ↓a_ne, ↓a_yes, ↓a_revL, a_slL, a_ixL, a_ixT, a_append, a_setL, a_cat, ↓a_for, ↓a_lc, ↓a_iL, ↓a_iT, ↓a_iR1, ↓a_iR2, ↓a_iE, ↓a_iZ, ↓a_iS, b_lenL, b_int1b, b_int1i, b_listOf, b_max2, b_min2, b_sum, b_rep, b_eqLI0, b_eqLI1, ↓b_isN, ↓b_notN, ↓b_listEnum, ↓b_raise0, List.getElem?_cons_zero, List.getElem?_cons_succ, List.set_cons_zero, List.set_cons_succ, Option.some.injEq, V.int.injEq, V.ref.injEq, V.bl.injEq, V.str.injEq, List.cons.injEq, and_true, true_and, exists_eq_left', exists_eq_left, exists_eq_right, exists_eq_right', exists_and_left, exists_eq', exists_eq, decide_eq_true_eq, scal_ii, scal_bb, scal_ss, wipe, ↓reduceIte, reduceCtorEq, Bool.not_eq_true', Bool.false_eq_true, not_false_eq_true, not_true_eq_false, if_true, if_false, decide_eq_false_iff_not, List.length_cons, List.length_nil, Nat.zero_add, CDiv, CMul, CPow])
local macro_rules
  | `(tactic| walk_at "z") => `(tactic| first | omega | (rw [sizeLine_eq]; simp only [↓a_dget, List.length_append, List.length_map, List.length_cons, List.length_nil, List.length_reverse, nints]; omega) | decide | (simp only [List.length_append, List.length_map, List.length_cons, List.length_nil]; omega))
section
variable {K : PySem.W.Frag} {C : Str → Addr} {H B : Hp} {Q : VK} {E : XK} {F : List (Addr × HO)} {vs : List V}
theorem mostF_lim : mostF < lim1 := by decide +kernel
theorem rd_mirrored_to (h : sp_mirrored_to K C vs H Q E) : t_mirrored_to K C E (fin Q) (start ["number", "base", "place"] vs) H := by
  obtain ⟨y, x, rfl, nb⟩ := h
  show t_mirrored_to K C E (fin Q) [some y, some x, none] H
  unfold t_mirrored_to
  have hsl := sizeLine_eq
  walk_at "w"
  refine ⟨y, x, rfl, nb.mp fun b e hb hb2 ⟨n, e2, hn, q⟩ => ?_⟩
  subst e
  subst e2
  have hl := mostF_lim
  have hc := cnt_le (b := b) n
  have hm : mostF = 1000000 := rfl
  refine ⟨n, rfl, by omega, fun H1 M1 => ?_⟩
  walk_at "w"
  refine ⟨1, _, ⟨rfl, rfl⟩, ⟨by decide, by decide, by omega, by omega⟩, fun P hP => ?_⟩
  rw [show ((cnt b n : Nat) : Int) + 1 - 1 = (cnt b n : Nat) by omega, Int.toNat_natCast]
  obtain ⟨c1, c2⟩ := mirs_cnt (b := b) n
  refine lc_r M1 hP (fun i => nints ((mirs b (n + 1)).take i)) rfl (fun i H2 hi L2 => ⟨rfl, ?_⟩) fun H2 L2 => ?_
  · walk_at "w"
    rw [show (1 : Int) + (i : Nat) = ((i + 1 : Nat) : Int) by omega]
    refine use_at L2 hb hb2 (by omega) fun H3 r h1 h2 h3 L3 => ?_
    have hi2 : i < (mirs b (n + 1)).length := by omega
    have hg := List.getElem?_eq_getElem hi2
    have hr : r = (mirs b (n + 1))[i] := by
      have hm2 := mirs_mem.mp (List.getElem_mem hi2)
      exact cnt_inj h1 hm2.2.2 (h2.trans (c2 i _ hg).symm)
    refine lc_y L3 ?_ ?_
    · rw [take_succ_get hg, nints_append, hr]
      rfl
    · rw [nints_len, List.length_take]
      omega
  · rw [List.take_of_length_le (by omega)] at L2
    exact q P H2 L2
theorem use_mto {y x : V} (L : Led B F H) (nb : NB K C H E x fun b => ∃ n : Nat, y = .int n ∧ n ≤ mostF ∧ ∀ p H', Led B ((p, .lst (nints (mirs b (n + 1)))) :: F) H' → Q (.ref p) H') : sp_mirrored_to K C [y, x] H Q E :=
  ⟨y, x, rfl, nb.mp fun b e hb hb2 ⟨n, e2, hn, q⟩ => ⟨n, e2, hn, fun p H' M => q p H' (L.step M)⟩⟩
theorem rd_greatest_by_0 (h : sp_greatest_by 0 K C vs H Q E) : False := by
  obtain ⟨ra, pd, b, N, k, n, m, most, kvs, _, _, _, _, h1, h2, _⟩ := h
  omega
theorem rd_greatest_by {D : Nat} (h : sp_greatest_by (D + 1) K C vs H Q E) : t_greatest_by D K C E (fin Q) (start ["rising", "places", "number", "many", "most", "part", "rest"] vs) H := by
  obtain ⟨ra, pd, b, N, k, n, m, most, kvs, rfl, hS, hd, hpl, hm1, hm2, hN, hn, hmo, hst, q0, q1⟩ := h
  show t_greatest_by D K C E (fin Q) [some (.ref ra), some (.ref pd), some (.int n), some (.int m), some (.int most), none, none] H
  unfold t_greatest_by
  have hsl := sizeLine_eq
  have hmf : mostF = 1000000 := rfl
  have L0 := Led.refl H
  walk_at "w"
  by_cases c1 : m = 1
  · subst c1
    rw [if_pos (by rfl)]
    by_cases c2 : n ≤ most ∧ n ∈ mirs b (N + 1)
    · rw [if_pos (by omega)]
      refine ⟨_, DGet.k (k := Sum.inl (n : Int)) hd, ?_⟩
      rw [hpl, if_pos c2.2, if_pos (by rfl)]
      refine ⟨by omega, fun p hp => ?_⟩
      (generalize eNW : upd _ _ _ = H1; have L1 := Led.new' L0 hp eNW; clear eNW)
      obtain ⟨_, g1, g2⟩ := mirs_mem.mp c2.2
      exact q1 [n] p H1 (grt_one g1 g2 c2.1) L1
    · have hno : NoW b n 1 most := now_one fun z => c2 ⟨z.1, mirs_mem.mpr ⟨by omega, z.2⟩⟩
      have := q0 hno H L0
      by_cases c3 : n ≤ most
      · rw [if_pos (by omega)]
        refine ⟨_, DGet.k (k := Sum.inl (n : Int)) hd, ?_⟩
        rw [hpl, if_neg (fun z => c2 ⟨c3, z⟩), if_neg (by decide)]
        exact this
      · rw [if_neg (by omega)]
        exact this
  rw [if_neg (by intro z; injection z; omega)]
  obtain ⟨m, rfl⟩ : ∃ m', m = m' + 1 := ⟨m - 1, by omega⟩
  refine ⟨_, hS, fun p hp => ?_⟩
  rw [show (nints ((mirs b (N + 1)).take k)).reverse = nints ((mirs b (N + 1)).take k).reverse from by unfold nints; rw [← List.map_reverse, ← List.map_reverse]]
  (generalize eNW : upd _ _ _ = H1; have L1 := Led.new' L0 hp eNW; clear eNW)
  generalize exs : (mirs b (N + 1)).take k = xs
  rw [exs] at L1 hS hst
  have hrise : xs.Pairwise (· < ·) := by
    rw [← exs]
    exact mirs_rise.sublist (List.take_sublist _ _)
  have hxl : xs.length ≤ N + 1 := by
    rw [← exs, List.length_take]
    have := mirs_len (b := b) (n := N + 1)
    omega
  refine ⟨⟨_, L1.sqI 0 rfl⟩, ?_⟩
  refine for_l (fun i σ H' => Lft b n (m + 1) most (xs.take (xs.length - i)) ∧ Led H [(p, .lst (nints xs.reverse))] H' ∧ ∃ y5 y6, σ = [some (.ref ra), some (.ref pd), some (.int n), some (.int (m + 1 : Nat)), some (.int most), y5, y6]) ⟨?_, L1, _, _, rfl⟩ (fun i σ H' _ ⟨_, L, _⟩ => L.sqI 0 rfl) ?_ ?_
  · rw [List.take_of_length_le (by omega)]
    intro p r hl
    refine hst p (mirs_mem.mpr ⟨?_, (hl.mem p List.mem_cons_self).1, (hl.mem p List.mem_cons_self).2.1⟩) (hl.mem p List.mem_cons_self).2.2
    have := (hl.mem p List.mem_cons_self).2.2
    omega
  · rintro N2 hN2 i x σ H2 hx ⟨hlf, L2, y5, y6, rfl⟩
    show t_greatest_by_b1 D K C E _ _ _
    unfold t_greatest_by_b1
    obtain ⟨part, hp1, rfl⟩ := nints_get hx
    have hi : i < xs.length := by
      have := (List.getElem?_eq_some_iff.mp hp1).1
      rwa [List.length_reverse] at this
    obtain ⟨j, hj⟩ : ∃ j, xs.length - i = j + 1 := ⟨xs.length - i - 1, by omega⟩
    have hpj : xs[j]? = some part := by
      rw [List.getElem?_reverse hi] at hp1
      rw [← hp1]
      congr 1
      omega
    have htk : xs.take (xs.length - i) = xs.take j ++ [part] := by rw [hj, take_succ_get hpj]
    rw [htk] at hlf
    have hri : (xs.take j ++ [part]).Pairwise (· < ·) := by
      rw [← htk]
      exact hrise.sublist (List.take_sublist _ _)
    have hkj : j < k ∧ (mirs b (N + 1))[j]? = some part := by
      rw [← exs, List.getElem?_take] at hpj
      by_cases c : j < k
      · rw [if_pos c] at hpj
        exact ⟨c, hpj⟩
      · rw [if_neg c] at hpj
        cases hpj
    obtain ⟨hjk, hmj⟩ := hkj
    have hmem := List.mem_of_getElem? hmj
    obtain ⟨hp2, hp3, hp4⟩ := mirs_mem.mp hmem
    obtain ⟨_, hcn⟩ := mirs_cnt (b := b) N
    have hcj := hcn j part hmj
    walk_at "w"
    refine ⟨.inl (by omega), ?_⟩
    have hml : (part : Int) * ((m : Int) + 1) = ((part * (m + 1) : Nat) : Int) := by
      rw [Int.natCast_mul]
      rfl
    by_cases c2 : part * (m + 1) < n
    · rw [if_pos (by rw [Int.natCast_succ, hml]; omega)]
      exact q0 (lft_cut hlf hri c2) H2 L2.none
    rw [if_neg (by rw [Int.natCast_succ, hml]; omega)]
    have hxi : xs.length - (i + 1) = j := by omega
    by_cases c3 : part ≤ most ∧ part + (m + 1) ≤ n + 1
    · rw [if_pos (by omega), if_pos (by omega)]
      refine ⟨.int (cnt b part : Nat), ?_, _, rfl, _, L2.sq hS, fun p3 k3 => ?_⟩
      · have := DGet.k (k := Sum.inl (part : Int)) (L2.base _ _ hd)
        rw [hpl, if_pos hmem] at this
        exact this
      rw [cut_none, hcj, show (nints xs).take (j + 1) = nints (xs.take (j + 1)) from by unfold nints; rw [← List.map_take, ← List.map_take]]
      (generalize eNW : upd _ _ _ = H3; have L3 := Led.new' L2 k3 eNW; clear eNW)
      rw [show (n : Int) - (part : Nat) = ((n - part : Nat) : Int) by omega, show ((m + 1 : Nat) : Int) - 1 = (m : Nat) by omega]
      refine ⟨p3, pd, b, N, min (j + 1) k, n - part, m, part, kvs, rfl, ?_, L3.base _ _ hd, hpl, by omega, by omega, hN, by omega, by omega, fun p hp hpp => ?_, fun hno H4 M4 => ?_, fun l p4 H4 hg M4 => ?_⟩
      · have : SqL K H3 p3 (nints (xs.take (j + 1))) := L3.sqI 0 rfl
        rw [← exs, List.take_take] at this
        exact this
      · obtain ⟨i2, hi2⟩ := List.getElem?_of_mem hp
        have h1 := hcn i2 p hi2
        have h2 := cnt_mono (b := b) hpp
        refine List.mem_of_getElem? (i := i2) ?_
        rw [List.getElem?_take, if_pos (by omega)]
        exact hi2
      · have L4 := L3.step0 M4
        show ite _ _ _
        rw [if_neg (fun z => z rfl)]
        exact hN2 _ _ _ ⟨by rw [hxi]; exact lft_none hlf hno, L4.tail, _, _, rfl⟩
      · have L4 := L3.step M4
        show ite _ _ _
        rw [if_pos (fun z => nomatch z)]
        have hll : l.length = m := hg.1.len
        refine ⟨by omega, fun p5 k5 => ?_⟩
        (generalize eNW : upd _ _ _ = H5; have L5 := Led.new' L4 k5 eNW; clear eNW)
        refine ⟨p4, rfl, _, L5.get 0 rfl, _, L5.get 1 rfl, ?_, fun p6 k6 => ?_⟩
        · rw [nints_len]
          show 1 + l.length ≤ sizeLine
          have := way_room (lft_some hlf hri hp3 hp4 c3.1 (by omega) hg).1
          omega
        (generalize eNW : upd _ _ _ = H6; have L6 := Led.new' L5 k6 eNW; clear eNW)
        exact q1 (part :: l) p6 H6 (lft_some hlf hri hp3 hp4 c3.1 (by omega) hg) (L6.one 0 rfl)
    · have hgo : N2 (i + 1) [some (.ref ra), some (.ref pd), some (.int n), some (.int (m + 1 : Nat)), some (.int most), some (.int part), y6] H2 := hN2 _ _ _ ⟨by rw [hxi]; exact lft_skip hlf c3, L2, _, _, rfl⟩
      by_cases c4 : part ≤ most
      · rw [if_pos (by omega), if_neg (by omega)]
        exact hgo
      · rw [if_neg (by omega)]
        exact hgo
  · rintro σ H2 ⟨hlf, L2, y5, y6, rfl⟩
    walk_at "w"
    refine q0 ?_ H2 L2.none
    rw [nints_len, List.length_reverse, Nat.sub_self] at hlf
    exact lft_nil hlf
/-- [object of k, x for k, x in enumerate(xs)], over naturals -/
theorem lc_obje {tt : TT} {te : TE} {σ : L2.St} {vs : List Nat} {a : Addr} {l : List Nat} {j k : Nat} {P : Addr} {Qd : Hp → Prop} (L : Led B F H) (hP : H P = none) (hS : ∀ F' H, Led B (F' ++ F) H → SqL K H a (nints l)) (f : Nat → HO) (hl : l.length < sizeLine)
    (hw : ∀ x y, wipe (((wipe σ vs).set j x).set k y) vs = wipe σ vs) (ht : tt = tYes)
    (he : ∀ (i x : Nat), l[i]? = some x → ∀ F' H R, Led B (F' ++ F) H → (∀ a H', Led B ((a, f x) :: (F' ++ F)) H' → R (.ref a) H') → te (((wipe σ vs).set j (some (.int (i : Nat)))).set k (some (.int (x : Nat)))) H R)
    (hd : ∀ (as : List Addr) H', as.length = l.length → Led B ((P, .lst (as.map V.ref)) :: (as.zip (l.map f) ++ F)) H' → Qd H') : LcG (Ite K a) (g2 K j k) tt te vs σ P Qd H := by
  subst ht
  refine lc_g walk_enum (fun i H' => ∃ as : List Addr, as.length = (l.take i).length ∧ Led B ((P, .lst (as.map V.ref)) :: (as.zip ((l.take i).map f) ++ F)) H') ⟨[], rfl, L.new hP⟩ (fun i H' _ ⟨as, _, L'⟩ => hS ((P, .lst (as.map V.ref)) :: as.zip ((l.take i).map f)) _ L') ?_ ?_
  · rintro i v H1 H2 hi ⟨as, hal, L1⟩ y
    obtain ⟨T, x, z, e, hT, e2, hx, hz⟩ := y
    subst e
    subst e2
    cases hx
    obtain ⟨m, hm, rfl⟩ := nints_get hz
    refine pair_in hT fun H' M => ?_
    have L2 := L1.step0 M.none
    refine ⟨hw _ _, ?_⟩
    show te _ _ _
    have hk := List.length_take_le i l
    refine he i m hm ((P, .lst (as.map V.ref)) :: as.zip ((l.take i).map f)) H' _ L2 fun w H3 L3 => ?_
    refine ⟨as.map V.ref, L3.get 1 rfl, by rw [List.length_map, hal]; have := List.length_take_le' i l; omega, as ++ [w], by rw [take_succ_get hm, List.length_append, List.length_append, hal]; rfl, ?_⟩
    rw [take_succ_get hm, List.map_append, List.map_append, List.zip_append (by rw [List.length_map, hal])]
    have L4 := L3.put (o' := .lst (as.map V.ref ++ [V.ref w])) 1 rfl
    refine L4.perm ?_
    rw [List.set_cons_succ]
    show ((w, f m) :: ((P, HO.lst (as.map V.ref ++ [V.ref w])) :: (as.zip ((l.take i).map f) ++ F))).Perm _
    refine (List.Perm.swap _ _ _).trans (List.Perm.cons _ ?_)
    rw [List.append_assoc]
    exact List.perm_middle.symm
  · rintro H1 ⟨as, hal, L1⟩
    rw [nints_len, List.take_of_length_le (Nat.le_refl _)] at hal L1
    exact hd as H1 hal L1
theorem dict_pairs' {ts : List Addr} {ms : List Nat} {g : Nat → V} (hl : ts.length = ms.length) (h : ∀ x ∈ ts.zip (ms.map fun m => HO.tup [.int (m : Nat), g m]), H x.1 = some x.2) :
    Paired (fun p (kv : Key × V) => SqT K H p [kV kv.1, kv.2]) ts (ms.map fun (m : Nat) => ((Sum.inl (m : Int) : Key), g m)) := by
  induction ts generalizing ms with
  | nil =>
    cases ms with
    | nil => exact .nil
    | cons _ _ => cases hl
  | cons t ts ih =>
    cases ms with
    | nil => cases hl
    | cons m ms =>
      rw [List.map_cons, List.zip_cons_cons] at h
      exact .cons (SqT.of (h _ List.mem_cons_self)) (ih (Nat.succ.inj hl) fun x hx => h x (List.mem_cons_of_mem _ hx))
theorem pl_ok {b N : Nat} : PlOk b N (mergeK [] ((mirs b (N + 1)).map fun (m : Nat) => ((Sum.inl (m : Int) : Key), V.int (cnt b m : Nat)))) := fun q => by
  have e := valV_merge ((mirs b (N + 1)).map fun (m : Nat) => (m : Int)) (fun k => V.int (cnt b k.toNat : Nat)) (q : Int) []
  rw [List.map_map] at e
  refine e.trans ?_
  by_cases c : q ∈ mirs b (N + 1)
  · rw [if_pos c, if_pos (List.mem_map.mpr ⟨q, c, rfl⟩)]
    rfl
  · rw [if_neg c, if_neg (fun z => c (by
      obtain ⟨m, hm, em⟩ := List.mem_map.mp z
      rw [show q = m by omega]
      exact hm))]
    rfl
theorem rd_fewest (h : sp_fewest K C vs H Q E) : t_fewest K C E (fin Q) (start ["number", "base", "rising", "places", "found", "many", "at", "part"] vs) H := by
  obtain ⟨y, x, rfl, nb⟩ := h
  show t_fewest K C E (fin Q) [some y, some x, none, none, none, none, none, none] H
  unfold t_fewest
  have hsl := sizeLine_eq
  have hmf : mostF = 1000000 := rfl
  walk_at "w"
  refine use_mto (Led.refl H) (nb.mp fun b e hb hb2 ⟨n, e2, hn, q⟩ => ⟨n, e2, hn, fun p H1 L1 => ?_⟩)
  subst e
  subst e2
  walk_at "w"
  by_cases c0 : n = 0
  · subst c0
    rw [if_pos (by rfl)]
    refine ⟨by omega, fun p1 k1 => ?_⟩
    (generalize eNW : upd _ _ _ = H2; have L2 := Led.new' L1 k1 eNW; clear eNW)
    refine q p1 [] H2 ⟨⟨⟨rfl, rfl, (fun d hd => nomatch hd), .nil⟩, fun l hl => ?_⟩, (fun m hm => nomatch hm)⟩ (L2.one 0 rfl)
    rw [List.length_eq_zero_iff.mp hl.len]
    exact trivial
  rw [if_neg (by omega)]
  have hml := mirs_len (b := b) (n := n + 1)
  refine ⟨_, L1.sqI 0 rfl, fun P hP => ?_⟩
  refine lc_obje (l := mirs b (n + 1)) L1 hP (fun F' H' L' => SqL.of (L'.own (p, _) (List.mem_append.mpr (.inr List.mem_cons_self))).1) (fun m => .tup [.int (m : Nat), .int (cnt b m : Nat)]) (by omega) (fun _ _ => rfl) rfl (fun i x hx F' H' R L' h => ?_) fun ts H2 htl L2 => ?_
  · walk_at "w"
    refine ⟨by omega, fun a ha => ?_⟩
    have := (mirs_cnt (b := b) n).2 i x hx
    rw [show (i : Int) + 1 = (cnt b x : Nat) by omega]
    exact h a _ (L'.new ha)
  have own2 := fun x hx => (L2.own x hx).1
  refine ⟨ts, L2.sqI 0 rfl, _, dict_pairs' (g := fun m => .int (cnt b m : Nat)) htl fun x hx => own2 x (List.mem_cons_of_mem _ (List.mem_append.mpr (.inl hx))), fun pd kd => ?_⟩
  (generalize eNW : upd _ _ _ = H3; have L3 := Led.new' L2 kd eNW; clear eNW)
  have L3 := L3.sub (.cons₂ _ (.cons _ (List.sublist_append_right _ [(p, HO.lst (nints (mirs b (n + 1))))])))
  show t_fewest_r2 K C E _ _ _
  unfold t_fewest_r2
  walk_at "w"
  have hfl : (fews b n).length ≤ 20 := fews_len hb 20 n (by omega)
  have hkv := pl_ok (b := b) (N := n)
  generalize mergeK [] ((mirs b (n + 1)).map fun (m : Nat) => ((Sum.inl (m : Int) : Key), V.int (cnt b m : Nat))) = kvs at hkv L3
  have L4 : Led H [(pd, .dK kvs), (p, .lst (nints (mirs b (n + 1))))] H3 := L3
  clear L3 L2 own2
  refine whl (fun mm σ H' => (∃ i : Nat, mm + i = 30 ∧ (∀ m', m' ≤ i → NoW b n m' n) ∧ Led H [(pd, .dK kvs), (p, .lst (nints (mirs b (n + 1))))] H' ∧ σ = [some (.int n), some (.int b), some (.ref p), some (.ref pd), some .non, some (.int (i : Nat)), none, none]) ∨
    ∃ (i : Nat) (r : Addr) (l : List Nat), Few b n l ∧ Led H [(r, .lst (nints l))] H' ∧ σ = [some (.int n), some (.int b), some (.ref p), some (.ref pd), some (.ref r), some (.int (i : Nat)), none, none]) 30 (.inl ⟨0, rfl, fun m' hm' => ?_, L4, rfl⟩) ?_
  · rw [Nat.le_zero.mp hm']
    exact now_zero (by omega)
  rintro N2 hN2 mm σ H4 (⟨i, hmm, hno, L5, rfl⟩ | ⟨i, r, l, hf, L5, rfl⟩)
  · have hi : i < (fews b n).length := by
      apply Nat.lt_of_not_le
      intro z
      exact hno _ z _ (way_few hb n)
    walk_at "w"
    refine whb ?_
    show t_fewest_b1 K C E _ _ _
    unfold t_fewest_b1
    walk_at "w"
    rw [show (i : Int) + 1 = ((i + 1 : Nat) : Int) by omega]
    refine ⟨p, pd, b, n, (mirs b (n + 1)).length, n, i + 1, n, kvs, rfl, ?_, L5.get 0 rfl, hkv, by omega, by omega, hn, Nat.le_refl _, Nat.le_refl _, fun x hx _ => ?_, fun hn2 H6 M6 => ?_, fun l r H6 hg M6 => ?_⟩
    · rw [List.take_of_length_le (Nat.le_refl _)]
      exact L5.sqI 1 rfl
    · rw [List.take_of_length_le (Nat.le_refl _)]
      exact hx
    · refine ⟨mm - 1, by omega, hN2 _ _ _ (.inl ⟨i + 1, by omega, fun m' hm' => ?_, L5.step0 M6, rfl⟩)⟩
      by_cases c : m' = i + 1
      · rw [c]
        exact hn2
      · exact hno m' (by omega)
    · have hll : l.length = i + 1 := hg.1.len
      refine ⟨mm - 1, by omega, hN2 _ _ _ (.inr ⟨i + 1, r, l, ⟨by rw [hll]; exact hg, fun m' hm' => hno m' (by omega)⟩, (L5.step M6).one 0 rfl, rfl⟩)⟩
  · walk_at "w"
    exact q r l H4 hf L5
end
end Mi

/-! x[i] op= y -/
namespace Mi
open PySem PySem.Spec PyProof.Rows L2
theorem a_augS {to ti te : TE} {tget : V → V → Hp → VK → Prop} {tip : TIp} {tset : TSet} {D : Ends} {σ : L2.St} {H : Hp} : tAugS to ti te tget tip tset D σ H =
    to σ H fun o H1 => ti σ H1 fun i H2 => tget o i H2 fun x H3 => te σ H3 fun y H4 => tip x y H4 fun z H5 => tset o i z H5 fun H6 => D.nx σ H6 := rfl
theorem get_list {X : Cx} : PGet X (rIxL X.K) := by
  intro pins s σ H x y v u Q I rx ry h
  obtain ⟨p, xs, i, z, rfl, rfl, hq, he, q⟩ := h
  cases rx
  obtain ⟨t, rfl⟩ := ry
  obtain ⟨its, r, pl, hz⟩ := I.list hq
  obtain ⟨j, h1, h2, h3, h4, h5⟩ := atI_get he
  obtain ⟨w, ew, rw'⟩ := r.get h2
  have hl := r.length
  have hn := line63
  have fin : EP X pins σ Q w s := ⟨z, H, I, rw', q⟩
  by_cases h0 : 0 ≤ i
  · have hj : i.toNat = j := by
      rw [seqIndex_of h0 h5] at h1
      exact Option.some.inj h1
    exact wpAny_getItem_list pl.isList h0 (by omega) (by rw [hj]; simpa using ew) fin
  · have hj : (i + (its.toArray.size : Int)).toNat = j := by
      rw [seqIndex_neg (by omega) h4] at h1
      rw [List.size_toArray, ← hl]
      exact Option.some.inj h1
    exact wpAny_getItem_list_neg pl.isList (by omega) (by rw [List.size_toArray] <;> omega) (by omega) (by rw [hj]; simpa using ew) fin
end Mi

namespace Mi
open PySem PySem.Spec PyProof.Rows L2
local macro_rules
  | `(tactic| walk_at "w") => `(tactic| try simp only [↓a_augS, ↓a_dget, ↓v_0, ↓n_0, ↓u_0, ↓v_1, ↓n_1, ↓u_1, ↓v_2, ↓n_2, ↓u_2, ↓v_3, ↓n_3, ↓u_3, ↓v_4, ↓n_4, ↓u_4, ↓v_5, ↓n_5, ↓u_5, ↓v_6, ↓n_6, ↓u_6, ↓v_7, ↓n_7, ↓u_7, ↓v_8, ↓n_8, ↓u_8, ↓v_9, ↓n_9, ↓u_9, ↓v_10, ↓n_10, ↓u_10, ↓v_11, ↓n_11, ↓u_11, ↓v_12, ↓n_12, ↓u_12, ↓v_13, ↓n_13, ↓u_13, ↓v_14, ↓n_14, ↓u_14, ↓v_15, ↓n_15, ↓u_15, ↓v_16, ↓n_16, ↓u_16, ↓v_17, ↓n_17, ↓u_17, ↓v_18, ↓n_18, ↓u_18, ↓v_19, ↓n_19, ↓u_19, ↓a_go, ↓g_int, ↓g_bl, ↓g_ref, ↓g_str, ↓g_rI, ↓g_rI0, ↓g_rU, ↓g_ipI, ↓g_cat, ↓g_ixL, ↓g_ixT, ↓g_slL, ↓g_append, ↓a_excV, ↓a_dispC, ↓a_dispV, ↓a_seq, ↓a_next, ↓a_tru, tru_bl, ↓b_isB, ↓b_notB, b_mulS, b_addS, b_intS, ↓b_lstRg, ↓b_rg1, ↓b_rg2, ↓a_to, b_geLI, b_dictP, ↓a_dIn, ↓a_dNotIn, b_popAt, b_abs, ↓a_glst, a_sortSet, ↓a_dput, ↓a_dnewK, ↓a_dnewT, b_sortI, ↓a_iR3, b_reprV, b_countD, ↓isi_ii, ↓isi_ib, ↓isi_bi, ↓isi_bb, ↓a_asg, ↓a_c, ↓a_op, ↓a_un, ↓a_ret, ↓a_retN, ↓a_ifS, ↓a_drop, ↓a_test, ↓a_B, ↓a_and, ↓a_or, ↓a_not, ↓a_andV, ↓a_orV, ↓a_notV, ↓a_ifE, ↓a_nil, ↓a_cons, ↓a_lst, ↓a_tup, ↓a_cb, ↓a_bm, ↓a_bm0, ↓a_sl, ↓a_po, ↓a_pn, ↓a_gsub, ↓a_gnil, ↓a_gcons, ↓a_gtup, ↓a_chain, ↓a_eq, ↓a_ne, ↓a_yes, ↓a_revL, a_slL, a_ixL, a_ixT, a_append, a_setL, a_cat, ↓a_for, ↓a_lc, ↓a_iL, ↓a_iT, ↓a_iR1, ↓a_iR2, ↓a_iE, ↓a_iZ, ↓a_iS, b_lenL, b_int1b, b_int1i, b_listOf, b_max2, b_min2, b_sum, b_rep, b_eqLI0, b_eqLI1, ↓b_isN, ↓b_notN, ↓b_listEnum, ↓b_raise0, List.getElem?_cons_zero, List.getElem?_cons_succ, List.set_cons_zero, List.set_cons_succ, Option.some.injEq, V.int.injEq, V.ref.injEq, V.bl.injEq, V.str.injEq, List.cons.injEq, and_true, true_and, exists_eq_left', exists_eq_left, exists_eq_right, exists_eq_right', exists_and_left, exists_eq', exists_eq, decide_eq_true_eq, scal_ii, scal_bb, scal_ss, wipe, ↓reduceIte, reduceCtorEq, Bool.not_eq_true', Bool.false_eq_true, not_false_eq_true, not_true_eq_false, if_true, if_false, decide_eq_false_iff_not, List.length_cons, List.length_nil, Nat.zero_add, CDiv, CMul, CPow])
local macro_rules
  | `(tactic| walk_at "z") => `(tactic| first | omega | (rw [sizeLine_eq]; simp only [↓a_augS, ↓a_dget, List.length_append, List.length_map, List.length_cons, List.length_nil, List.length_reverse, nints]; omega) | decide | (simp only [List.length_append, List.length_map, List.length_cons, List.length_nil]; omega))
section
variable {K : PySem.W.Frag} {C : Str → Addr} {H B : Hp} {Q : VK} {E : XK} {F : List (Addr × HO)} {vs : List V}
theorem llF_app' {as as2 : List Addr} {ls ls2 : List (List Nat)} (h : as.length = ls.length) : llF (as ++ as2) (ls ++ ls2) = llF as ls ++ llF as2 ls2 := by
  unfold llF
  rw [List.map_append, List.zip_append (by rw [List.length_map]; exact h)]
theorem llF_get {as : List Addr} {ls : List (List Nat)} {i : Nat} {w : Addr} {l : List Nat} (h1 : as[i]? = some w) (h2 : ls[i]? = some l) : (llF as ls)[i]? = some (w, HO.lst (nints l)) := by
  unfold llF
  refine (List.getElem?_zip_eq_some (z := (w, _))).mpr ⟨h1, ?_⟩
  rw [List.getElem?_map, h2]
  rfl
theorem llF_len {as : List Addr} {ls : List (List Nat)} (h : as.length = ls.length) : (llF as ls).length = ls.length := by
  unfold llF
  rw [List.length_zip, List.length_map]
  omega
theorem llF_set {as : List Addr} {ls : List (List Nat)} {i : Nat} {w : Addr} {l : List Nat} (h1 : as[i]? = some w) (hl : as.length = ls.length) : (llF as ls).set i (w, HO.lst (nints l)) = llF as (ls.set i l) := by
  have hi := (List.getElem?_eq_some_iff.mp h1).1
  refine List.ext_getElem? fun j => ?_
  rw [List.getElem?_set]
  by_cases c : i = j
  · subst c
    rw [if_pos rfl, if_pos (by rw [llF_len hl]; omega), llF_get h1 (List.getElem?_set_self (by omega))]
  · rw [if_neg c]
    by_cases c2 : j < as.length
    · rw [llF_get (List.getElem?_eq_getElem c2) (List.getElem?_eq_getElem (show j < ls.length by omega)), llF_get (l := ls[j]'(by omega)) (List.getElem?_eq_getElem c2) (by rw [List.getElem?_set_ne c, List.getElem?_eq_getElem (by omega)])]
    · rw [List.getElem?_eq_none (by rw [llF_len hl]; omega), List.getElem?_eq_none (by rw [llF_len (by rw [List.length_set]; exact hl), List.length_set]; omega)]
theorem rowL_0 (N : Nat) : rowL N (Wn [] 0) = 1 :: List.replicate N 0 := by
  refine List.ext_getElem? fun i => ?_
  cases i with
  | zero =>
    rw [rowL_get (Nat.zero_le _)]
    rfl
  | succ i =>
    rw [List.getElem?_cons_succ, List.getElem?_replicate]
    by_cases c : i + 1 ≤ N
    · rw [rowL_get c, if_pos (by omega)]
      show some (if 0 = 0 ∧ i + 1 = 0 then 1 else 0) = _
      rw [if_neg (by omega)]
    · rw [List.getElem?_eq_none (by rw [rowL_len]; omega), if_neg (by omega)]
theorem rowL_s (N c : Nat) : rowL N (Wn [] (c + 1)) = List.replicate (N + 1) 0 := by
  refine List.ext_getElem? fun i => ?_
  rw [List.getElem?_replicate]
  by_cases h : i ≤ N
  · rw [rowL_get h, if_pos (by omega)]
    show some (if c + 1 = 0 ∧ i = 0 then 1 else 0) = _
    rw [if_neg (by omega)]
  · rw [List.getElem?_eq_none (by rw [rowL_len]; omega), if_neg (by omega)]
theorem rep_flat : ∀ (k : Nat), (List.replicate k [V.int 0]).flatten = nints (List.replicate k 0)
  | 0 => rfl
  | k + 1 => by
    rw [List.replicate_succ, List.flatten_cons, rep_flat k, List.replicate_succ]
    rfl
theorem Tg.mono {G G' : List (Addr × HO)} {ps : List Nat} {N many : Nat} {rs : List Addr} {ass : List (List Addr)} (t : Tg G ps N many rs ass) (h : ∀ x ∈ G, x ∈ G') : Tg G' ps N many rs ass :=
  ⟨t.len, fun j r as h1 h2 => ⟨(t.row j r as h1 h2).1, h _ (t.row j r as h1 h2).2⟩, fun j as c a h1 h2 => h _ (t.cell j as c a h1 h2)⟩
theorem Tg.snoc {G : List (Addr × HO)} {ps : List Nat} {N many : Nat} {rs : List Addr} {ass : List (List Addr)} {r : Addr} {as : List Addr} (t : Tg G ps N many rs ass) (hl : as.length = many + 1) (hr : (r, HO.lst (as.map V.ref)) ∈ G)
    (hc : ∀ (c : Nat) a, as[c]? = some a → (a, HO.lst (nints (rowL N (Wn (ps.take rs.length).reverse c)))) ∈ G) : Tg G ps N many (rs ++ [r]) (ass ++ [as]) := by
  have hlen := t.len
  refine ⟨by rw [List.length_append, List.length_append, t.len]; rfl, fun j r' as' h1 h2 => ?_, fun j as' c a h1 h2 => ?_⟩
  · by_cases c : j < rs.length
    · rw [List.getElem?_append_left c] at h1
      rw [List.getElem?_append_left (by omega)] at h2
      exact t.row j r' as' h1 h2
    · have hj := (List.getElem?_eq_some_iff.mp h1).1
      rw [List.length_append] at hj
      have hj : j < rs.length + 1 := hj
      have ej : j = rs.length := by omega
      subst ej
      rw [List.getElem?_append_right (Nat.le_refl _), Nat.sub_self] at h1
      rw [List.getElem?_append_right (by omega), t.len, Nat.sub_self] at h2
      cases h1
      cases h2
      exact ⟨hl, hr⟩
  · by_cases c : j < rs.length
    · rw [List.getElem?_append_left (by omega)] at h1
      exact t.cell j as' _ a h1 h2
    · have hj := (List.getElem?_eq_some_iff.mp h1).1
      rw [List.length_append] at hj
      have hj : j < ass.length + 1 := hj
      have ej : j = rs.length := by omega
      subst ej
      rw [List.getElem?_append_right (by omega), t.len, Nat.sub_self] at h1
      cases h1
      exact hc _ a h2
theorem Tg.nil {G : List (Addr × HO)} {ps : List Nat} {N many : Nat} : Tg G ps N many [] [] := ⟨rfl, (fun j r as h => nomatch h), (fun j as c a h => nomatch h)⟩
theorem atI_lastR {rs : List Addr} {j : Nat} {r : Addr} (hl : rs.length = j + 1) (h : rs[j]? = some r) : atI (rs.map V.ref) (-1) = some (.ref r) := by
  obtain ⟨ini, las, el⟩ : ∃ ini las, rs = ini ++ [las] := ⟨_, _, (List.dropLast_concat_getLast (List.ne_nil_of_length_pos (show 0 < rs.length by omega))).symm⟩
  have hi : ini.length = j := by
    rw [el, List.length_append] at hl
    exact Nat.succ.inj hl
  rw [el, List.getElem?_append_right (by omega), hi, Nat.sub_self] at h
  cases h
  rw [el, List.map_append]
  exact atI_last _ _
theorem ixN_at {n i : Nat} (h : i < n) : ixN n (i : Int) = some i := by
  unfold ixN
  rw [if_pos (by omega), if_pos (by omega)]
  rfl
theorem nints_put (l : List Nat) (i x : Nat) : (nints l).set i (.int (x : Nat)) = nints (l.set i x) := by
  unfold nints
  rw [← List.map_set, ← List.map_set]
theorem rd_counts_by (h : sp_counts_by K C vs H Q E) : t_counts_by K C E (fin Q) (start ["parts", "number", "many", "found", "part", "rows", "count", "left", "row"] vs) H := by
  obtain ⟨pa, ps, N, many, rfl, hS, hps, hpl, hN, hm, q⟩ := h
  show t_counts_by K C E (fin Q) [some (.ref pa), some (.int N), some (.int many), none, none, none, none, none, none] H
  unfold t_counts_by
  have hsl := sizeLine_eq
  have L0 := Led.refl H
  walk_at "w"
  refine ⟨by omega, fun a1 k1 => ?_⟩
  (generalize eNW : upd _ _ _ = H1; have L1 := Led.new' L0 k1 eNW; clear eNW)
  refine ⟨by omega, fun a2 k2 => ?_⟩
  (generalize eNW : upd _ _ _ = H2; have L2 := Led.new' L1 k2 eNW; clear eNW)
  refine ⟨_, L2.get 0 rfl, by omega, by omega, ?_, fun a3 k3 => ?_⟩
  · show 1 * _ ≤ sizeLine
    omega
  rw [Int.toNat_natCast, rep_flat]
  (generalize eNW : upd _ _ _ = H3; have L3 := Led.new' L2 k3 eNW; clear eNW)
  refine ⟨_, L3.get 2 rfl, _, L3.get 0 rfl, ?_, fun a4 k4 => ?_⟩
  · rw [nints_len, List.length_replicate]
    show 1 + N ≤ sizeLine
    omega
  rw [show [V.int 1] ++ nints (List.replicate N 0) = nints (rowL N (Wn [] 0)) from by rw [rowL_0]; rfl]
  (generalize eNW : upd _ _ _ = H4; have L4 := Led.new' L3 k4 eNW; clear eNW)
  refine ⟨by omega, fun a5 k5 => ?_⟩
  (generalize eNW : upd _ _ _ = H5; have L5 := Led.new' L4 k5 eNW; clear eNW)
  refine ⟨by omega, by omega, fun P hP => ?_⟩
  rw [Int.toNat_natCast]
  have L6 : Led H [(a5, .lst [.ref a4]), (a4, .lst (nints (rowL N (Wn [] 0))))] H5 := L5.sub (.cons₂ _ (.cons₂ _ (List.nil_sublist _)))
  refine lc_mkr L6 hP (fun i acc G => ∃ as : List Addr, as.length = i ∧ acc = as.map V.ref ∧ G.Perm (llF as ((List.range i).map fun c => rowL N (Wn [] (c + 1))))) ⟨[], rfl, rfl, .refl _⟩ (fun i acc G ⟨as, h1, h2, _⟩ => by rw [h2, List.length_map, h1]; exact Nat.le_refl _) (by omega) (fun _ => rfl) (fun i acc G hi ⟨as, h1, h2, hG⟩ F' H6 Rr M1 hR => ?_) fun acc G H6 ⟨as, h1, h2, hG⟩ L7 => ?_
  · walk_at "w"
    refine ⟨by omega, fun b1 j1 => ?_⟩
    (generalize eNW : upd _ _ _ = H7; have M2 := Led.new' M1 j1 eNW; clear eNW)
    refine ⟨_, M2.get 0 rfl, by omega, by omega, ?_, fun b2 j2 => ?_⟩
    · show 1 * ((N : Int) + 1).toNat ≤ sizeLine
      omega
    rw [show ((N : Int) + 1).toNat = N + 1 by omega, rep_flat, ← rowL_s N i]
    (generalize eNW : upd _ _ _ = H8; have M3 := Led.new' M2 j2 eNW; clear eNW)
    refine hR (.ref b2) [(b2, .lst (nints (rowL N (Wn [] (i + 1)))))] H8 ⟨as ++ [b2], by rw [List.length_append, h1]; rfl, by rw [List.map_append, h2]; rfl, ?_⟩ (M3.sub (.cons₂ _ (.cons _ (.refl _))))
    rw [List.range_succ, List.map_append, llF_app' (by rw [h1, List.length_map, List.length_range])]
    refine (List.Perm.cons _ hG).trans ?_
    exact List.perm_append_comm (l₁ := [_])
  subst h2
  refine ⟨_, (L7.own (a5, _) (List.mem_cons_of_mem _ (List.mem_append.mpr (.inr List.mem_cons_self)))).1, _, L7.get 0 rfl, ?_, fun r0 k8 => ?_⟩
  · rw [List.length_map, h1]
    show 1 + many ≤ sizeLine
    omega
  rw [show [V.ref a4] ++ as.map V.ref = (a4 :: as).map V.ref from rfl]
  (generalize eNW : upd _ _ _ = H7; have L8 := Led.new' L7 k8 eNW; clear eNW)
  refine ⟨by omega, fun p k9 => ?_⟩
  (generalize eNW : upd _ _ _ = H8; have L9 := Led.new' L8 k9 eNW; clear eNW)
  have t0 : Tg ((r0, HO.lst ((a4 :: as).map V.ref)) :: (P, HO.lst (as.map V.ref)) :: (G ++ [(a5, HO.lst [V.ref a4]), (a4, HO.lst (nints (rowL N (Wn [] 0))))])) ps N many [r0] [a4 :: as] := by
    refine Tg.nil.snoc (rs := []) (by rw [List.length_cons, h1]) List.mem_cons_self fun c a hc => ?_
    cases c with
    | zero =>
      cases hc
      exact List.mem_cons_of_mem _ (List.mem_cons_of_mem _ (List.mem_append.mpr (.inr (List.mem_cons_of_mem _ List.mem_cons_self))))
    | succ c =>
      have hc : as[c]? = some a := hc
      have hci := (List.getElem?_eq_some_iff.mp hc).1
      refine List.mem_cons_of_mem _ (List.mem_cons_of_mem _ (List.mem_append.mpr (.inl (hG.mem_iff.mpr (List.mem_of_getElem? (llF_get hc ?_))))))
      rw [List.getElem?_map, List.getElem?_range (by omega)]
      rfl
  show t_counts_by_r6 K C E _ _ _
  unfold t_counts_by_r6
  walk_at "w"
  refine ⟨⟨_, L9.sq hS⟩, ?_⟩
  refine for_l (fun i σ H' => ∃ (rs : List Addr) (ass : List (List Addr)) (G : List (Addr × HO)) (y4 y5 y6 y7 : Option V), rs.length = i + 1 ∧ Tg G ps N many rs ass ∧ Led H ((p, .lst (rs.map V.ref)) :: G) H' ∧ σ = [some (.ref pa), some (.int N), some (.int many), some (.ref p), y4, y5, y6, y7, none])
    ⟨[r0], [a4 :: as], _, _, _, _, _, rfl, t0, L9, rfl⟩ (fun i σ H' _ ⟨_, _, _, _, _, _, _, _, _, L, _⟩ => L.sq hS) ?_ ?_
  · rintro N2 hN2 i x σ H9 hx ⟨rs, ass, G, y4, y5, y6, y7, hrs, ht, M0, rfl⟩
    obtain ⟨part, hp, rfl⟩ := nints_get hx
    obtain ⟨hp0, hpN⟩ := hps part (List.mem_of_getElem? hp)
    have hi := (List.getElem?_eq_some_iff.mp hp).1
    show t_counts_by_b5 K C E _ _ _
    unfold t_counts_by_b5
    walk_at "w"
    obtain ⟨r, hr⟩ : ∃ r, rs[i]? = some r := ⟨_, List.getElem?_eq_getElem (by omega)⟩
    obtain ⟨as1, has1⟩ : ∃ as1, ass[i]? = some as1 := ⟨_, List.getElem?_eq_getElem (by have := ht.len; omega)⟩
    obtain ⟨hl1, hrG⟩ := ht.row i r as1 hr has1
    have hcell := fun c a h => ht.cell i as1 c a has1 h
    refine ⟨_, M0.sqI 0 rfl, _, atI_lastR hrs hr, ?_⟩
    have inF : ∀ {F' : List (Addr × HO)} {H' : Hp} {x : Addr × HO}, Led H (F' ++ ((p, HO.lst (rs.map V.ref)) :: G)) H' → x ∈ G → H' x.1 = some x.2 := fun L' hx => (L'.own _ (List.mem_append.mpr (.inr (List.mem_cons_of_mem _ hx)))).1
    refine ⟨r, rfl, ⟨_, .of (inF (F' := []) M0 hrG)⟩, fun P2 hP2 => ?_⟩
    generalize eW : Wn (ps.take i).reverse = W0 at hcell
    refine lc_mkv M0 hP2 (fun F' H' L' => .of (inF L' hrG)) (fun j acc G' => ∃ as : List Addr, as.length = j ∧ acc = as.map V.ref ∧ G'.Perm (llF as ((List.range j).map fun c => rowL N (W0 c)))) ⟨[], rfl, rfl, .refl _⟩ (fun j acc G' ⟨as, h1, h2, _⟩ => by rw [h2, List.length_map, h1]; exact Nat.le_refl _) (by rw [List.length_map]; omega) (fun _ => rfl) (fun j x acc G' hx2 ⟨as, h1, h2, hG'⟩ F' H10 Rr M1 hR => ?_) fun acc G' H10 ⟨as, h1, h2, hG'⟩ M1 => ?_
    · rw [List.getElem?_map] at hx2
      obtain ⟨w, hw, rfl⟩ := Option.map_eq_some_iff.mp hx2
      have hcw := hcell j w hw
      walk_at "w"
      refine ⟨_, .inl (.of (inF M1 hcw)), fun b2 j2 => ?_⟩
      (generalize eNW : upd _ _ _ = H11; have M2 := Led.new' M1 j2 eNW; clear eNW)
      refine hR (.ref b2) [(b2, .lst (nints (rowL N (W0 j))))] H11 ⟨as ++ [b2], by rw [List.length_append, h1]; rfl, by rw [List.map_append, h2]; rfl, ?_⟩ M2
      rw [List.range_succ, List.map_append, llF_app' (by rw [h1, List.length_map, List.length_range])]
      refine (List.Perm.cons _ hG').trans ?_
      exact List.perm_append_comm (l₁ := [_])
    subst h2
    rw [List.length_map, hl1] at h1 hG'
    have M2 : Led H ((P2, .lst (as.map V.ref)) :: (llF as ((List.range (many + 1)).map fun c => rowL N (W0 c)) ++ ((p, HO.lst (rs.map V.ref)) :: G))) H10 := M1.perm (List.Perm.cons _ (List.Perm.append_right _ hG'))
    clear M1 hG' inF
    show t_counts_by_r4 K C E _ _ _
    unfold t_counts_by_r4
    walk_at "w"
    refine ⟨1, _, ⟨rfl, rfl⟩, ⟨by decide, by decide, by omega, by omega⟩, ?_⟩
    rw [show ((many : Int) + 1 - 1).toNat = many by omega]
    have R_ : ∃ R : Nat → Nat → Nat → Nat → Nat, R = fun t k c n => if c ≤ t then WnC W0 part c n else if c = t + 1 ∧ n < part + k then WnC W0 part (t + 1) n else W0 c n := ⟨_, rfl⟩
    obtain ⟨R, eR⟩ := R_
    have hM : Led H ((P2, .lst (as.map V.ref)) :: (llF as ((List.range (many + 1)).map fun c => rowL N (R 0 0 c)) ++ ((p, HO.lst (rs.map V.ref)) :: G))) H10 := by
      have : ((List.range (many + 1)).map fun c => rowL N (R 0 0 c)) = (List.range (many + 1)).map fun c => rowL N (W0 c) := List.map_congr_left fun c _ => rowL_congr fun n _ => by
        subst eR
        show (if c ≤ 0 then _ else _) = _
        by_cases c0 : c ≤ 0
        · rw [if_pos c0, Nat.le_zero.mp c0]
          rfl
        · rw [if_neg c0]
          by_cases c1 : c = 0 + 1 ∧ n < part + 0
          · rw [if_pos c1, wn_low (by omega), c1.1]
          · rw [if_neg c1]
      rw [this]
      exact M2
    refine for_r (fun t σ H' => ∃ (y6 y7 : Option V), Led H ((P2, .lst (as.map V.ref)) :: (llF as ((List.range (many + 1)).map fun c => rowL N (R t 0 c)) ++ ((p, HO.lst (rs.map V.ref)) :: G))) H' ∧ σ = [some (.ref pa), some (.int N), some (.int many), some (.ref p), some (.int part), some (.ref P2), y6, y7, none]) ⟨_, _, hM, rfl⟩ ?_ ?_
    · rintro N3 hN3 t σ H11 hti ⟨y6, y7, M3, rfl⟩
      have hti : t < many := hti
      show t_counts_by_b2 K C E _ _ _
      unfold t_counts_by_b2
      walk_at "w"
      refine ⟨_, _, ⟨rfl, rfl⟩, ⟨by omega, by omega, by omega, by omega⟩, ?_⟩
      rw [show ((N : Int) + 1 - (part : Nat)).toNat = N + 1 - part by omega, show (1 : Int) + (t : Nat) = ((t + 1 : Nat) : Int) by omega]
      refine for_r (fun k σ H' => ∃ (y7 : Option V), Led H ((P2, .lst (as.map V.ref)) :: (llF as ((List.range (many + 1)).map fun c => rowL N (R t k c)) ++ ((p, HO.lst (rs.map V.ref)) :: G))) H' ∧ σ = [some (.ref pa), some (.int N), some (.int many), some (.ref p), some (.int part), some (.ref P2), some (.int (t + 1 : Nat)), y7, none]) ⟨_, M3, rfl⟩ ?_ ?_
      · rintro N4 hN4 k σ H12 hk ⟨y7, M4, rfl⟩
        have hk : k < N + 1 - part := hk
        show t_counts_by_b1 K C E _ _ _
        unfold t_counts_by_b1
        walk_at "w"
        obtain ⟨w1, hw1⟩ : ∃ w1, as[t + 1]? = some w1 := ⟨_, List.getElem?_eq_getElem (by omega)⟩
        obtain ⟨w0, hw0⟩ : ∃ w0, as[t]? = some w0 := ⟨_, List.getElem?_eq_getElem (by omega)⟩
        have hlen : as.length = ((List.range (many + 1)).map fun c => rowL N (R t k c)).length := by rw [List.length_map, List.length_range, h1]
        have rowAt : ∀ c w, as[c]? = some w → c ≤ many → ((P2, HO.lst (as.map V.ref)) :: (llF as ((List.range (many + 1)).map fun c => rowL N (R t k c)) ++ ((p, HO.lst (rs.map V.ref)) :: G)))[c + 1]? = some (w, .lst (nints (rowL N (R t k c)))) := fun c w hc hcm => by
          rw [List.getElem?_cons_succ, List.getElem?_append_left (by rw [llF_len hlen, List.length_map, List.length_range]; omega)]
          refine llF_get hc ?_
          rw [List.getElem?_map, List.getElem?_range (by omega)]
          rfl
        have mapAt : ∀ c w, as[c]? = some w → (as.map V.ref)[c]? = some (V.ref w) := fun c w hc => by
          rw [List.getElem?_map, hc]
          rfl
        have r1 := rowAt (t + 1) w1 hw1 (by omega)
        have r0' := rowAt t w0 hw0 (by omega)
        rw [show ((t + 1 : Nat) : Int) - 1 = (t : Nat) by omega, show (part : Int) + (k : Nat) - (part : Nat) = (k : Nat) by omega, show (part : Int) + (k : Nat) = ((part + k : Nat) : Int) by omega]
        have v1 : R t k (t + 1) (part + k) = W0 (t + 1) (part + k) := by
          subst eR
          show (if t + 1 ≤ t then _ else if _ then _ else _) = _
          rw [if_neg (by omega), if_neg (by omega)]
        have v0 : R t k t k = WnC W0 part t k := by
          subst eR
          show (if t ≤ t then _ else _) = _
          rw [if_pos (Nat.le_refl _)]
        refine ⟨_, M4.sqI 0 rfl, _, atI_nat (mapAt _ _ hw1), w1, rfl, _, .of (M4.get (t + 2) r1), _, atI_nat (nints_at (rowL_get (by omega))), _, M4.sqI 0 rfl, _, atI_nat (mapAt _ _ hw0), w0, rfl, _, .of (M4.get (t + 1) r0'), _, atI_nat (nints_at (rowL_get (by omega))), ?_⟩
        rw [v1, v0]
        walk_at "w"
        refine ⟨_, M4.get (t + 2) r1, _, ixN_at (by rw [nints_len, rowL_len]; omega), ?_⟩
        have ez : ((W0 (t + 1) (part + k) : Nat) : Int) + (WnC W0 part t k : Nat) = (WnC W0 part (t + 1) (part + k) : Nat) := by
          rw [wn_high (by omega), show part + k - part = k by omega]
          omega
        rw [ez, nints_put]
        generalize eQ : upd _ _ _ = H13
        have M5 := M4.put' (t + 2) r1 eQ
        clear eQ
        have hset : (rowL N (R t k (t + 1))).set (part + k) (WnC W0 part (t + 1) (part + k)) = rowL N (R t (k + 1) (t + 1)) := rowL_set (by omega) fun n => by
          subst eR
          show (if t + 1 ≤ t then _ else if _ then _ else _) = if _ then _ else if t + 1 ≤ t then _ else if _ then _ else _
          rw [if_neg (show ¬ t + 1 ≤ t by omega), if_neg (show ¬ t + 1 ≤ t by omega)]
          by_cases e : n = part + k
          · rw [if_pos ⟨rfl, by omega⟩, if_pos e, e]
          · rw [if_neg e]
            by_cases c : n < part + k
            · rw [if_pos ⟨rfl, by omega⟩, if_pos ⟨rfl, c⟩]
            · rw [if_neg (fun z => absurd z.2 (by omega)), if_neg (fun z => absurd z.2 c)]
        rw [hset] at M5
        rw [show t + 2 = (t + 1) + 1 from rfl, List.set_cons_succ, List.set_append_left _ _ (by rw [llF_len hlen, List.length_map, List.length_range]; omega), llF_set hw1 hlen] at M5
        refine hN4 _ _ _ ⟨_, ?_, rfl⟩
        have e : ((List.range (many + 1)).map fun c => rowL N (R t k c)).set (t + 1) (rowL N (R t (k + 1) (t + 1))) = (List.range (many + 1)).map fun c => rowL N (R t (k + 1) c) := by
          refine List.ext_getElem? fun c => ?_
          rw [List.getElem?_set, List.getElem?_map, List.getElem?_map, List.length_map, List.length_range]
          by_cases c0 : t + 1 = c
          · subst c0
            rw [if_pos rfl, if_pos (by omega), List.getElem?_range (by omega)]
            rfl
          · rw [if_neg c0]
            by_cases c1 : c < many + 1
            · rw [List.getElem?_range c1]
              refine congrArg some (rowL_congr fun n _ => ?_)
              subst eR
              show (if c ≤ t then _ else if _ then _ else _) = if c ≤ t then _ else if _ then _ else _
              by_cases c2 : c ≤ t
              · rw [if_pos c2, if_pos c2]
              · rw [if_neg c2, if_neg c2, if_neg (fun z => c0 z.1.symm), if_neg (fun z => c0 z.1.symm)]
            · rw [List.getElem?_eq_none (by rw [List.length_range]; omega)]
              rfl
        rw [e] at M5
        exact M5
      · rintro σ H12 ⟨y7, M4, rfl⟩
        refine hN3 _ _ _ ⟨_, _, ?_, rfl⟩
        have : ((List.range (many + 1)).map fun c => rowL N (R (t + 1) 0 c)) = (List.range (many + 1)).map fun c => rowL N (R t (N + 1 - part) c) := List.map_congr_left fun c _ => rowL_congr fun n hn => by
          subst eR
          show (if c ≤ t + 1 then _ else if _ then _ else _) = if c ≤ t then _ else if _ then _ else _
          by_cases c0 : c ≤ t
          · rw [if_pos (by omega), if_pos c0]
          · rw [if_neg c0]
            by_cases c1 : c = t + 1
            · rw [if_pos (by omega), if_pos ⟨c1, by omega⟩, c1]
            · rw [if_neg (by omega), if_neg (show ¬ (c = t + 1 ∧ n < part + (N + 1 - part)) from fun z => c1 z.1)]
              by_cases c2 : c = t + 1 + 1 ∧ n < part + 0
              · rw [if_pos c2, wn_low (by omega), c2.1]
              · rw [if_neg c2]
        rw [this]
        exact M4
    · rintro σ H11 ⟨y6, y7, M3, rfl⟩
      show t_counts_by_r3 K C E _ _ _
      unfold t_counts_by_r3
      walk_at "w"
      have mp : (p, HO.lst (rs.map V.ref)) ∈ llF as ((List.range (many + 1)).map fun c => rowL N (R many 0 c)) ++ ((p, HO.lst (rs.map V.ref)) :: G) := List.mem_append.mpr (.inr List.mem_cons_self)
      have hp9 := (M3.own _ (List.mem_cons_of_mem _ mp)).1
      refine ⟨.inl ⟨rfl, _, .of hp9⟩, _, hp9, by rw [List.length_map]; omega, ?_⟩
      generalize eQ : upd _ _ _ = H12
      have M4 := M3.perm (List.perm_middle (l₁ := (P2, HO.lst (as.map V.ref)) :: llF as ((List.range (many + 1)).map fun c => rowL N (R many 0 c))))
      have M5 := M4.put' 0 rfl eQ
      clear eQ
      rw [show rs.map V.ref ++ [V.ref P2] = (rs ++ [P2]).map V.ref by rw [List.map_append]; rfl] at M5
      refine hN2 _ _ _ ⟨rs ++ [P2], ass ++ [as], _, _, _, _, _, by rw [List.length_append, hrs]; rfl, ?_, M5, rfl⟩
      refine (ht.mono fun x hx => List.mem_append.mpr (.inr hx)).snoc h1 (List.mem_append.mpr (.inl List.mem_cons_self)) fun c a hc => ?_
      have hci := (List.getElem?_eq_some_iff.mp hc).1
      refine List.mem_append.mpr (.inl (List.mem_cons_of_mem _ (List.mem_of_getElem? (llF_get hc ?_))))
      rw [List.getElem?_map, List.getElem?_range (by omega), hrs, take_succ_get hp, List.reverse_append]
      show some (rowL N (R many 0 c)) = some (rowL N (WnC (Wn (ps.take i).reverse) part c))
      rw [eW]
      refine congrArg some (rowL_congr fun n _ => ?_)
      subst eR
      show (if c ≤ many then _ else _) = _
      rw [if_pos (by omega)]
  · rintro σ H9 ⟨rs, ass, G, y4, y5, y6, y7, hrs, ht, M0, rfl⟩
    rw [nints_len] at hrs
    walk_at "w"
    exact q p rs ass G H9 hrs ht M0
theorem use_counts {pa : Addr} {ps : List Nat} {N many : Nat} (L : Led B F H) (hS : SqL K H pa (nints ps)) (hps : ∀ p ∈ ps, 0 < p ∧ p ≤ N) (hpl : ps.length ≤ 100000) (hN : N ≤ 100000) (hm : many ≤ 1000)
    (q : ∀ p rs ass G H', rs.length = ps.length + 1 → Tg G ps N many rs ass → Led B ((p, .lst (rs.map V.ref)) :: (G ++ F)) H' → Q (.ref p) H') : sp_counts_by K C [.ref pa, .int N, .int many] H Q E :=
  ⟨pa, ps, N, many, rfl, hS, hps, hpl, hN, hm, fun p rs ass G H' h1 h2 M => q p rs ass G H' h1 h2 (L.step M)⟩
/-- found[j][c][n] -/
theorem Tg.at {G : List (Addr × HO)} {ps : List Nat} {N many : Nat} {rs : List Addr} {ass : List (List Addr)} (t : Tg G ps N many rs ass) {j c n : Nat} (hj : j < rs.length) (hc : c ≤ many) (hn : n ≤ N) (hG : ∀ x ∈ G, H x.1 = some x.2) :
    ∃ (r : Addr) (as : List Addr) (a : Addr), rs[j]? = some r ∧ H r = some (.lst (as.map V.ref)) ∧ as[c]? = some a ∧ (as.map V.ref)[c]? = some (V.ref a) ∧ H a = some (.lst (nints (rowL N (Wn (ps.take j).reverse c)))) ∧ (nints (rowL N (Wn (ps.take j).reverse c)))[n]? = some (.int (Wn (ps.take j).reverse c n : Nat)) := by
  have hl := t.len
  have h1 := List.getElem?_eq_getElem hj
  have h2 := List.getElem?_eq_getElem (show j < ass.length by omega)
  obtain ⟨h3, h4⟩ := t.row j _ _ h1 h2
  have h5 := List.getElem?_eq_getElem (show c < (ass[j]'(by omega)).length by omega)
  refine ⟨_, _, _, h1, hG _ h4, h5, ?_, hG _ (t.cell j _ c _ h2 h5), nints_at (rowL_get hn)⟩
  rw [List.getElem?_map, h5]
  rfl
theorem rd_many_ways (h : sp_many_ways K C vs H Q E) : t_many_ways K C E (fin Q) (start ["number", "base", "many"] vs) H := by
  obtain ⟨y, x, z, rfl, nb⟩ := h
  show t_many_ways K C E (fin Q) [some y, some x, some z] H
  unfold t_many_ways
  have hsl := sizeLine_eq
  have hmf : mostF = 1000000 := rfl
  walk_at "w"
  refine use_mto (Led.refl H) (nb.mp fun b e hb hb2 ⟨n, m, e2, e3, hn, hm, q⟩ => ⟨n, e2, by omega, fun pa H1 L1 => ?_⟩)
  subst e
  subst e2
  subst e3
  have hml : (mirs b (n + 1)).length ≤ n := by
    rw [(mirs_cnt n).1]
    exact cnt_le n
  walk_at "w"
  refine use_counts L1 (L1.sqI 0 rfl) (fun p hp => ⟨(mirs_mem.mp hp).2.1, by have := (mirs_mem.mp hp).1; omega⟩) (by omega) hn hm fun p rs ass G H2 hrs ht L2 => ?_
  obtain ⟨r, as, a, h1, h2, h3, h4, h5, h6⟩ := ht.at (j := (mirs b (n + 1)).length) (c := m) (n := n) (H := H2) (by omega) (Nat.le_refl _) (Nat.le_refl _) fun x hx => (L2.own x (List.mem_cons_of_mem _ (List.mem_append.mpr (.inl hx)))).1
  rw [List.take_of_length_le (Nat.le_refl _)] at h5 h6
  refine ⟨p, rfl, _, L2.sqI 0 rfl, _, atI_lastR hrs h1, r, rfl, _, .of h2, _, atI_nat h4, a, rfl, _, .of h5, _, atI_nat h6, ?_⟩
  exact q H2 L2.none
theorem rd_all_ways (h : sp_all_ways K C vs H Q E) : t_all_ways K C E (fin Q) (start ["number", "base", "parts", "ways", "part", "left"] vs) H := by
  obtain ⟨y, x, rfl, nb⟩ := h
  show t_all_ways K C E (fin Q) [some y, some x, none, none, none, none] H
  unfold t_all_ways
  have hsl := sizeLine_eq
  have hmf : mostF = 1000000 := rfl
  walk_at "w"
  refine use_mto (Led.refl H) (nb.mp fun b e hb hb2 ⟨n, e2, hn, q⟩ => ⟨n, e2, by omega, fun pa H1 L1 => ?_⟩)
  subst e
  subst e2
  have hml : (mirs b (n + 1)).length ≤ n := by
    rw [(mirs_cnt n).1]
    exact cnt_le n
  walk_at "w"
  refine ⟨by omega, fun a1 k1 => ?_⟩
  (generalize eNW : upd _ _ _ = H2; have L2 := Led.new' L1 k1 eNW; clear eNW)
  refine ⟨by omega, fun a2 k2 => ?_⟩
  (generalize eNW : upd _ _ _ = H3; have L3 := Led.new' L2 k2 eNW; clear eNW)
  refine ⟨_, L3.get 0 rfl, by omega, by omega, ?_, fun a3 k3 => ?_⟩
  · show 1 * _ ≤ sizeLine
    omega
  rw [Int.toNat_natCast, rep_flat]
  (generalize eNW : upd _ _ _ = H4; have L4 := Led.new' L3 k3 eNW; clear eNW)
  refine ⟨_, L4.get 2 rfl, _, L4.get 0 rfl, ?_, fun wa k4 => ?_⟩
  · rw [nints_len, List.length_replicate]
    show 1 + n ≤ sizeLine
    omega
  rw [show [V.int 1] ++ nints (List.replicate n 0) = nints (rowL n (An [])) from by
    have : rowL n (An []) = rowL n (Wn [] 0) := rowL_congr fun k _ => by
      show (if k = 0 then 1 else 0) = if 0 = 0 ∧ k = 0 then 1 else 0
      simp
    rw [this, rowL_0]
    rfl]
  (generalize eNW : upd _ _ _ = H5; have L5 := Led.new' L4 k4 eNW; clear eNW)
  have L6 : Led H [(wa, .lst (nints (rowL n (An [])))), (pa, .lst (nints (mirs b (n + 1))))] H5 := L5.sub (.cons₂ _ (.cons _ (.cons _ (.cons _ (.refl _)))))
  refine ⟨⟨_, L6.sqI 1 rfl⟩, ?_⟩
  refine for_l (fun i σ H' => ∃ (y4 y5 : Option V), Led H [(wa, .lst (nints (rowL n (An ((mirs b (n + 1)).take i).reverse)))), (pa, .lst (nints (mirs b (n + 1))))] H' ∧ σ = [some (.int n), some (.int b), some (.ref pa), some (.ref wa), y4, y5]) ⟨_, _, L6, rfl⟩ (fun i σ H' _ ⟨_, _, L, _⟩ => L.sqI 1 rfl) ?_ ?_
  · rintro N2 hN2 i x σ H6 hx ⟨y4, y5, M0, rfl⟩
    obtain ⟨part, hp, rfl⟩ := nints_get hx
    obtain ⟨hp1, hp0, _⟩ := mirs_mem.mp (List.mem_of_getElem? hp)
    generalize eW : An ((mirs b (n + 1)).take i).reverse = f at M0
    show t_all_ways_b2 K C E _ _ _
    unfold t_all_ways_b2
    walk_at "w"
    refine ⟨_, _, ⟨rfl, rfl⟩, ⟨by omega, by omega, by omega, by omega⟩, ?_⟩
    rw [show ((n : Int) + 1 - (part : Nat)).toNat = n + 1 - part by omega]
    have low : ∀ x, x < part → Ap f part x = f x := fun x hx => by
      rw [ap_eq hp0, if_neg (by omega)]
      rfl
    have e0 : rowL n f = rowL n (fun x => if x < part + 0 then Ap f part x else f x) := rowL_congr fun x _ => by
      by_cases c : x < part + 0
      · rw [if_pos c, low x (by omega)]
      · rw [if_neg c]
    rw [e0] at M0
    refine for_r (fun k σ H' => ∃ (y5 : Option V), Led H [(wa, .lst (nints (rowL n (fun x => if x < part + k then Ap f part x else f x)))), (pa, .lst (nints (mirs b (n + 1))))] H' ∧ σ = [some (.int n), some (.int b), some (.ref pa), some (.ref wa), some (.int part), y5]) ⟨_, M0, rfl⟩ ?_ ?_
    · rintro N4 hN4 k σ H7 hk ⟨y5, M1, rfl⟩
      have hk : k < n + 1 - part := hk
      show t_all_ways_b1 K C E _ _ _
      unfold t_all_ways_b1
      walk_at "w"
      rw [show (part : Int) + (k : Nat) - (part : Nat) = (k : Nat) by omega, show (part : Int) + (k : Nat) = ((part + k : Nat) : Int) by omega]
      refine ⟨_, M1.sqI 0 rfl, _, atI_nat (nints_at (rowL_get (by omega))), _, M1.sqI 0 rfl, _, atI_nat (nints_at (rowL_get (by omega))), ?_⟩
      rw [if_neg (by omega), if_pos (by omega)]
      walk_at "w"
      refine ⟨_, M1.get 0 rfl, _, ixN_at (by rw [nints_len, rowL_len]; omega), ?_⟩
      have ez : ((f (part + k) : Nat) : Int) + (Ap f part k : Nat) = (Ap f part (part + k) : Nat) := by
        rw [ap_eq (n := part + k) hp0, if_pos (by omega), show part + k - part = k by omega]
        omega
      rw [ez, nints_put, rowL_set (g := fun x => if x < part + (k + 1) then Ap f part x else f x) (by omega) fun x => by
        show (if x < part + (k + 1) then Ap f part x else f x) = if x = part + k then Ap f part (part + k) else if x < part + k then Ap f part x else f x
        by_cases e : x = part + k
        · rw [if_pos (by omega), if_pos e, e]
        · rw [if_neg e]
          by_cases c : x < part + k
          · rw [if_pos (by omega), if_pos c]
          · rw [if_neg (by omega), if_neg c]]
      generalize eQ : upd _ _ _ = H8
      have M2 := M1.put' 0 rfl eQ
      clear eQ
      exact hN4 _ _ _ ⟨_, M2, rfl⟩
    · rintro σ H7 ⟨y5, M1, rfl⟩
      refine hN2 _ _ _ ⟨_, _, ?_, rfl⟩
      have : rowL n (An ((mirs b (n + 1)).take (i + 1)).reverse) = rowL n (fun x => if x < part + (n + 1 - part) then Ap f part x else f x) := rowL_congr fun x hx => by
        rw [take_succ_get hp, List.reverse_append]
        show Ap (An ((mirs b (n + 1)).take i).reverse) part x = _
        rw [eW, if_pos (by omega)]
      rw [this]
      exact M1
  · rintro σ H6 ⟨y4, y5, M0, rfl⟩
    rw [nints_len, List.take_of_length_le (Nat.le_refl _)] at M0
    walk_at "w"
    refine ⟨_, M0.sqI 0 rfl, _, atI_nat (nints_at (rowL_get (Nat.le_refl _))), ?_⟩
    exact q H6 M0.none
end
end Mi

namespace Mi
open PySem PySem.Spec PyProof.Rows L2
local macro_rules
  | `(tactic| walk_at "w") => `(tactic| try simp only [↓a_augS, ↓a_dget, ↓v_0, ↓n_0, ↓u_0, ↓v_1, ↓n_1, ↓u_1, ↓v_2, ↓n_2, ↓u_2, ↓v_3, ↓n_3, ↓u_3, ↓v_4, ↓n_4, ↓u_4, ↓v_5, ↓n_5, ↓u_5, ↓v_6, ↓n_6, ↓u_6, ↓v_7, ↓n_7, ↓u_7, ↓v_8, ↓n_8, ↓u_8, ↓v_9, ↓n_9, ↓u_9, ↓v_10, ↓n_10, ↓u_10, ↓v_11, ↓n_11, ↓u_11, ↓v_12, ↓n_12, ↓u_12, ↓v_13, ↓n_13, ↓u_13, ↓v_14, ↓n_14, ↓u_14, ↓v_15, ↓n_15, ↓u_15, ↓v_16, ↓n_16, ↓u_16, ↓v_17, ↓n_17, ↓u_17, ↓v_18, ↓n_18, ↓u_18, ↓v_19, ↓n_19, ↓u_19, ↓a_go, ↓g_int, ↓g_bl, ↓g_ref, ↓g_str, ↓g_rI, ↓g_rI0, ↓g_rU, ↓g_ipI, ↓g_cat, ↓g_ixL, ↓g_ixT, ↓g_slL, ↓g_append, ↓a_excV, ↓a_dispC, ↓a_dispV, ↓a_seq, ↓a_next, ↓a_tru, tru_bl, ↓b_isB, ↓b_notB, b_mulS, b_addS, b_intS, ↓b_lstRg, ↓b_rg1, ↓b_rg2, ↓a_to, b_geLI, b_dictP, ↓a_dIn, ↓a_dNotIn, b_popAt, b_abs, ↓a_glst, a_sortSet, ↓a_dput, ↓a_dnewK, ↓a_dnewT, b_sortI, ↓a_iR3, b_reprV, b_countD, ↓isi_ii, ↓isi_ib, ↓isi_bi, ↓isi_bb, ↓a_asg, ↓a_c, ↓a_op, ↓a_un, ↓a_ret, ↓a_retN, ↓a_ifS, ↓a_drop, ↓a_test, ↓a_B, ↓a_and, ↓a_or, ↓a_not, ↓a_andV, ↓a_orV, ↓a_notV, ↓a_ifE, ↓a_nil, ↓a_cons, ↓a_lst, ↓a_tup, ↓a_cb, ↓a_bm, ↓a_bm0, ↓a_sl, ↓a_po, ↓a_pn, ↓a_gsub, ↓a_gnil, ↓a_gcons, ↓a_gtup, ↓a_chain, ↓a_eq, ↓a_ne, ↓a_yes, ↓a_revL, a_slL, a_ixL, a_ixT, a_append, a_setL, a_cat, ↓a_for, ↓a_lc, ↓a_iL, ↓a_iT, ↓a_iR1, ↓a_iR2, ↓a_iE, ↓a_iZ, ↓a_iS, b_lenL, b_int1b, b_int1i, b_listOf, b_max2, b_min2, b_sum, b_rep, b_eqLI0, b_eqLI1, ↓b_isN, ↓b_notN, ↓b_listEnum, ↓b_raise0, List.getElem?_cons_zero, List.getElem?_cons_succ, List.set_cons_zero, List.set_cons_succ, Option.some.injEq, V.int.injEq, V.ref.injEq, V.bl.injEq, V.str.injEq, List.cons.injEq, and_true, true_and, exists_eq_left', exists_eq_left, exists_eq_right, exists_eq_right', exists_and_left, exists_eq', exists_eq, decide_eq_true_eq, scal_ii, scal_bb, scal_ss, wipe, ↓reduceIte, reduceCtorEq, Bool.not_eq_true', Bool.false_eq_true, not_false_eq_true, not_true_eq_false, if_true, if_false, decide_eq_false_iff_not, List.length_cons, List.length_nil, Nat.zero_add, CDiv, CMul, CPow])
local macro_rules
  | `(tactic| walk_at "z") => `(tactic| first | omega | (rw [sizeLine_eq]; simp only [↓a_augS, ↓a_dget, List.length_append, List.length_map, List.length_cons, List.length_nil, List.length_reverse, nints]; omega) | decide | (simp only [List.length_append, List.length_map, List.length_cons, List.length_nil]; omega))
section
variable {K : PySem.W.Frag} {C : Str → Addr} {H B : Hp} {Q : VK} {E : XK} {F : List (Addr × HO)} {vs : List V}
theorem flatN {l : List Nat} : (nints l).all flatV = true := by
  rw [List.all_eq_true]
  intro x hx
  obtain ⟨i, hi⟩ := List.mem_iff_getElem?.mp hx
  obtain ⟨d, _, rfl⟩ := nints_get hi
  rfl
theorem inN {l : List Nat} {i : Int} : inV (.int i) (nints l) = true ↔ ∃ k : Nat, i = (k : Nat) ∧ k ∈ l := by
  unfold inV
  rw [List.any_eq_true]
  constructor
  · rintro ⟨x, hx, e⟩
    unfold nints at hx
    rw [List.map_map] at hx
    obtain ⟨d, hd, rfl⟩ := List.mem_map.mp hx
    have e : ((d : Int) == i) = true := e
    exact ⟨d, (beq_iff_eq.mp e).symm, hd⟩
  · rintro ⟨k, rfl, hk⟩
    refine ⟨.int (k : Nat), ?_, ?_⟩
    · unfold nints
      rw [List.map_map]
      exact List.mem_map.mpr ⟨k, hk, rfl⟩
    · show ((k : Int) == (k : Int)) = true
      exact beq_self_eq_true _
theorem rd_need_way (h : sp_need_way K C vs H Q E) : t_need_way K C E (fin Q) (start ["number", "parts", "thing", "part", "one", "other"] vs) H := by
  obtain ⟨n, pa, t, ps, xs, rfl, hS, hps, ht, hx, hn, qE, q⟩ := h
  show t_need_way K C E (fin Q) [some (.int n), some (.ref pa), some (.ref t), none, none, none] H
  unfold t_need_way
  have hsl := sizeLine_eq
  have L0 := Led.refl H
  have hST : SqL K H t xs := .of ht
  walk_at "w"
  refine isi_list ht ⟨_, rfl, ?_⟩
  rw [if_neg (fun z => nomatch z)]
  refine ⟨_, .inl hST, ?_⟩
  by_cases c1 : (n : Int) < xs.length
  · rw [if_pos c1]
    refine qE ?_ H L0
    rintro ⟨l, rfl, w⟩
    have := sum_len fun p hp => hps p (w.mem p hp)
    rw [w.sum] at this
    rw [nints_len] at c1
    omega
  rw [if_neg c1]
  have hxl : xs.length ≤ n := by omega
  refine ⟨⟨_, hST⟩, ?_⟩
  refine for_l (fun i σ H' => Led H [] H' ∧ (∃ l : List Nat, xs.take i = nints l ∧ ∀ p ∈ l, p ∈ ps) ∧ ∃ y3, σ = [some (.int n), some (.ref pa), some (.ref t), y3, none, none]) ⟨L0, ⟨[], rfl, fun _ h => nomatch h⟩, _, rfl⟩ (fun i σ H' _ h => h.1.sq hST) ?_ ?_
  · rintro N2 hN2 i x σ H1 hxi ⟨L1, ⟨l, hl, hlp⟩, y3, rfl⟩
    have hkx := (hx x (List.mem_of_getElem? hxi)).mono L1
    have bad : (∀ k : Nat, x = .int (k : Nat) → k ∉ ps) → ¬ WayV ps n xs := by
      rintro z ⟨l2, rfl, w⟩
      obtain ⟨k, hk, rfl⟩ := nints_get hxi
      exact z k rfl (w.mem k (List.mem_of_getElem? hk))
    show t_need_way_b1 K C E _ _ _
    unfold t_need_way_b1
    cases x with
    | int k =>
      walk_at "w"
      refine ⟨_, _, rfl, .inl (L1.sq hS), rfl, flatN, _, rfl, ?_⟩
      by_cases c : ∃ k' : Nat, k = k' ∧ k' ∈ ps
      · obtain ⟨k', rfl, hk⟩ := c
        rw [if_neg (by rw [if_pos rfl, inN.mpr ⟨k', rfl, hk⟩]; exact fun z => nomatch z)]
        refine hN2 _ _ _ ⟨L1, ⟨l ++ [k'], by rw [take_succ_get hxi, hl, nints_append]; rfl, fun p hp => ?_⟩, _, rfl⟩
        rcases List.mem_append.mp hp with h | h
        · exact hlp p h
        · rw [List.mem_singleton.mp h]
          exact hk
      · rw [if_pos (by rw [if_pos rfl, Bool.eq_false_iff.mpr fun z => c (inN.mp z)]; rfl)]
        exact qE (bad fun k' e hm => c ⟨k', V.int.inj e, hm⟩) H1 L1
    | bl k =>
      walk_at "w"
      exact qE (bad fun k e => nomatch e) H1 L1
    | _ =>
      walk_at "w"
      refine isi_int hkx ⟨_, rfl, ?_⟩
      rw [if_pos (by rfl)]
      exact qE (bad fun k e => nomatch e) H1 L1
  · rintro σ H1 ⟨L1, ⟨l, hl, hlp⟩, y3, rfl⟩
    rw [List.take_of_length_le (Nat.le_refl _)] at hl
    subst hl
    rw [nints_len] at hxl
    show t_need_way_r2 K C E _ _ _
    unfold t_need_way_r2
    walk_at "w"
    refine ⟨nints l, L1.sq hST, fun p hp => ?_⟩
    (generalize eNW : upd _ _ _ = H2; have L2 := Led.new' L1 hp eNW; clear eNW)
    rw [show cutV (nints l) (some 1) none = nints (l.drop 1) from (cut_from (nints l) 1).trans (by unfold nints; rw [List.map_drop, List.map_drop])] at L2
    refine ⟨_, _, ⟨rfl, rfl⟩, _, L2.sq hST, _, L2.sqI 0 rfl, fun P hP => ?_⟩
    refine lc_z L2 hP (fun H' L' => ⟨L'.sq hST, L'.sqI 0 rfl⟩) (fun i => (((l.zip (l.drop 1)).take i).filter fun z => decide (z.1 < z.2)).map fun z => V.int 1) rfl ?_ ?_
    · intro i x y H3 hx hy L3
      obtain ⟨m, hm, rfl⟩ := nints_get hx
      obtain ⟨k, hk, rfl⟩ := nints_get hy
      have hz : (l.zip (l.drop 1))[i]? = some (m, k) := List.getElem?_zip_eq_some.mpr ⟨hm, hk⟩
      have e : ((l.zip (l.drop 1)).take (i + 1)).filter (fun z => decide (z.1 < z.2)) = ((l.zip (l.drop 1)).take i).filter (fun z => decide (z.1 < z.2)) ++ [(m, k)].filter (fun z => decide (z.1 < z.2)) := by rw [take_succ_get hz, List.filter_append]
      have hle : (((l.zip (l.drop 1)).take i).filter fun z => decide (z.1 < z.2)).length ≤ 100000 := by
        refine Nat.le_trans (List.length_filter_le _ _) ?_
        rw [List.length_take, List.length_zip]
        omega
      refine ⟨rfl, ?_⟩
      walk_at "w"
      by_cases c : (m : Int) < k
      · rw [if_pos c]
        refine lc_y L3 ?_ (by rw [List.length_map]; omega)
        rw [e, List.filter_cons, if_pos (by rw [decide_eq_true (by omega)]), List.filter_nil, List.map_append]
        rfl
      · rw [if_neg c]
        refine lc_n L3 ?_
        rw [e, List.filter_cons, if_neg (by rw [decide_eq_false (by omega)]; exact Bool.false_ne_true), List.filter_nil, List.append_nil]
    · intro H3 L3
      refine ⟨by decide, fun p3 hp3 => ?_⟩
      (generalize eNW : upd _ _ _ = H4; have L4 := Led.new' L3 hp3 eNW; clear eNW)
      rw [List.take_of_length_le (by rw [List.length_zip, nints_len, nints_len]; exact Nat.le_refl _)] at L4
      have inj : ∀ {l2 : List Nat}, nints l = nints l2 → l2 = l := fun {l2} e => by
        refine List.ext_getElem? fun i => ?_
        have := congrArg (fun z : List V => z[i]?) e
        cases h : l[i]? with
        | none =>
          rw [List.getElem?_eq_none (by rw [nints_len]; exact List.getElem?_eq_none_iff.mp h)] at this
          have := List.getElem?_eq_none_iff.mp this.symm
          rw [nints_len] at this
          exact List.getElem?_eq_none this
        | some x =>
          rw [nints_at h] at this
          obtain ⟨d, hd, e2⟩ := nints_get this.symm
          have := V.int.inj e2
          rw [hd, show x = d by omega]
      have one : (((l.zip (l.drop 1)).filter fun z => decide (z.1 < z.2)).map fun z => V.int 1) = (((l.zip (l.drop 1)).filter fun z => decide (z.1 < z.2)).map fun z => (1 : Int)).map V.int := by
        rw [List.map_map]
        rfl
      refine ⟨((l.zip (l.drop 1)).filter fun z => decide (z.1 < z.2)).map fun z => (1 : Int), by rw [← one]; exact L4.sqI 1 rfl, [], L4.sqI 0 rfl, ?_⟩
      by_cases c2 : (l.zip (l.drop 1)).filter (fun z => decide (z.1 < z.2)) = []
      · rw [c2, if_neg (fun z => z rfl)]
        have hf : l.Pairwise fun a b => b ≤ a := pair_fall fun z hz c => by
          have : z ∈ (l.zip (l.drop 1)).filter fun z => decide (z.1 < z.2) := List.mem_filter.mpr ⟨hz, decide_eq_true c⟩
          rw [c2] at this
          cases this
        refine ⟨l.map fun (d : Nat) => (d : Int), L4.sq hST, ?_⟩
        by_cases c3 : l.sum = n
        · rw [if_neg (by rw [sum_cast, c3]; exact fun z => z rfl)]
          exact q ⟨l, rfl, hlp, hf, c3⟩ H4 L4.none
        · rw [if_pos (by rw [sum_cast]; omega)]
          refine qE ?_ H4 L4.none
          rintro ⟨l2, e, w⟩
          rw [inj e] at w
          exact c3 w.sum
      · rw [if_pos (fun z => c2 (by simpa using z))]
        refine qE ?_ H4 L4.none
        rintro ⟨l2, e, w⟩
        rw [inj e] at w
        refine c2 (List.filter_eq_nil_iff.mpr fun z hz c => ?_)
        exact fall_pair w.fall z hz (of_decide_eq_true c)
theorem rd_way_place (h : sp_way_place K C vs H Q E) : t_way_place K C E (fin Q) (start ["number", "base", "thing", "parts", "counts", "found", "left", "most", "at", "own"] vs) H := by
  obtain ⟨y, x, z, rfl, nb⟩ := h
  show t_way_place K C E (fin Q) [some y, some x, some z, none, none, none, none, none, none, none] H
  unfold t_way_place
  have hsl := sizeLine_eq
  have hmf : mostF = 1000000 := rfl
  walk_at "w"
  refine use_mto (Led.refl H) (nb.mp fun b e hb hb2 ⟨n, t, xs, e2, e3, ht, hx, hn, qE, q⟩ => ⟨n, e2, by omega, fun pa H1 L1 => ?_⟩)
  subst e
  subst e2
  subst e3
  have hml : (mirs b (n + 1)).length ≤ n := by
    rw [(mirs_cnt n).1]
    exact cnt_le n
  have hpos : ∀ p ∈ mirs b (n + 1), 0 < p ∧ p ≤ n := fun p hp => ⟨(mirs_mem.mp hp).2.1, by have := (mirs_mem.mp hp).1; omega⟩
  have hri : (mirs b (n + 1)).Pairwise (· < ·) := mirs_rise
  generalize mirs b (n + 1) = ps at *
  walk_at "w"
  refine ⟨n, pa, t, ps, xs, rfl, L1.sqI 0 rfl, fun p hp => (hpos p hp).1, L1.base _ _ ht, fun x hx' => (hx x hx').mono L1, by omega, fun z H2 M => qE z H2 (L1.step0 M).none, fun ⟨l, el, w⟩ H2 M => ?_⟩
  subst el
  have L2 := L1.step0 M
  have hST : SqL K H t (nints l) := .of ht
  have hll : l.length ≤ n := by
    have := sum_len fun p hp => (hpos p (w.mem p hp)).1
    rw [w.sum] at this
    exact this
  walk_at "w"
  refine ⟨_, .inl (L2.sq hST), ?_⟩
  rw [nints_len]
  refine use_counts L2 (L2.sqI 0 rfl) hpos (by omega) (by omega) (by omega) fun p rs ass G H3 hrs htg L3 => ?_
  have hlenps := hrs
  obtain ⟨B2, s2, hB2, M0⟩ := Led.lay (F := []) (G := (p, HO.lst (rs.map V.ref)) :: (G ++ [(pa, HO.lst (nints ps))])) (by rw [List.append_nil]; exact L3)
  have eP := hB2.at 0 rfl
  have ePs : B2 pa = some (.lst (nints ps)) := hB2 (pa, _) (List.mem_cons_of_mem _ (List.mem_append.mpr (.inr List.mem_cons_self)))
  have eG : ∀ x ∈ G, B2 x.1 = some x.2 := fun x hx => hB2 x (List.mem_cons_of_mem _ (List.mem_append.mpr (.inl hx)))
  have eT : B2 t = some (.lst (nints l)) := s2 _ _ ht
  clear hB2 L3 L2 L1
  refine ⟨_, .inl (.of (M0.base _ _ ePs)), _, .of (M0.base _ _ eT), ?_⟩
  rw [nints_len]
  generalize eT' : plW ps l n ps.length = T
  refine for_e (fun i σ H' => ∃ (f nn m : Nat) (y8 y9 : Option V), Led B2 [] H' ∧ WpI ps l i nn m ∧ f + plW ps (l.drop i) nn m = T ∧ σ = [some (.int n), some (.int b), some (.ref t), some (.ref pa), some (.ref p), some (.int f), some (.int nn), some (.int m), y8, y9])
    ⟨0, n, ps.length, _, _, M0, .zero w, by rw [Nat.zero_add, List.drop_zero, eT'], rfl⟩ (fun i σ H' _ ⟨_, _, _, _, _, L, _⟩ => .of (L.base _ _ eT)) ?_ ?_
  · rintro N2 hN2 i x σ H4 H5 hxi ⟨f, nn, m, y8, y9, M1, wi, hf, rfl⟩ M2
    obtain ⟨own, hown, rfl⟩ := nints_get hxi
    obtain ⟨k, hkm, hk, hleq, hle, wi2, hstep⟩ := wi.step hri w hown
    have hil := (List.getElem?_eq_some_iff.mp hown).1
    have hmps := wi.most
    rw [hstep] at hf
    have M3 := M1.step0 M2
    show t_way_place_b2 K C E _ _ _
    unfold t_way_place_b2
    walk_at "w"
    refine whl (fun mm σ H' => ∃ f', k < mm ∧ mm ≤ m ∧ (∀ j x, mm ≤ j → j < m → ps[j]? = some x → own < x) ∧ f' + grS ps (l.length - 1 - i) nn own mm = f + grS ps (l.length - 1 - i) nn own m ∧ Led B2 [] H' ∧ σ = [some (.int n), some (.int b), some (.ref t), some (.ref pa), some (.ref p), some (.int f'), some (.int nn), some (.int mm), some (.int i), some (.int own)]) m ⟨f, hkm, Nat.le_refl _, fun j x h1 h2 => absurd h2 (by omega), rfl, M3, rfl⟩ ?_
    rintro N3 hN3 mm σ H6 ⟨f', hk1, hmm, hgt, hsum, M4, rfl⟩
    obtain ⟨mm, rfl⟩ : ∃ m', mm = m' + 1 := ⟨mm - 1, by omega⟩
    obtain ⟨y, hy⟩ : ∃ y, ps[mm]? = some y := ⟨_, List.getElem?_eq_getElem (by omega)⟩
    walk_at "w"
    rw [show ((mm + 1 : Nat) : Int) - 1 = (mm : Nat) by omega]
    refine ⟨_, .of (M4.base _ _ ePs), _, atI_nat (nints_at hy), ?_⟩
    walk_at "w"
    by_cases c : own < y
    · rw [if_pos (by omega)]
      refine whb ?_
      have hkm2 : k < mm := by
        apply Nat.lt_of_not_le
        intro z
        have := Nat.le_antisymm z (Nat.le_of_lt_succ hk1)
        subst this
        rw [hk] at hy
        cases hy
        omega
      have hgt2 : ∀ j x, mm ≤ j → j < m → ps[j]? = some x → own < x := fun j x h1 h2 h3 => by
        by_cases e : j = mm
        · subst e
          rw [hy] at h3
          cases h3
          exact c
        · exact hgt j x (by omega) h2 h3
      have hsum : f' + (grS ps (l.length - 1 - i) nn own mm + grAt ps (l.length - 1 - i) nn own mm) = f + grS ps (l.length - 1 - i) nn own m := hsum
      rw [grAt_eq hy] at hsum
      show t_way_place_b1 K C E _ _ _
      unfold t_way_place_b1
      refine cut_ (fun σ H' => ∃ f2, f2 + grS ps (l.length - 1 - i) nn own mm = f + grS ps (l.length - 1 - i) nn own m ∧ Led B2 [] H' ∧ σ = [some (.int n), some (.int b), some (.ref t), some (.ref pa), some (.ref p), some (.int f2), some (.int nn), some (.int (mm + 1 : Nat)), some (.int i), some (.int own)]) (fun M hM => ?_) ?_
      · walk_at "w"
        rw [show ((mm + 1 : Nat) : Int) - 1 = (mm : Nat) by omega]
        refine ⟨_, .of (M4.base _ _ ePs), _, atI_nat (nints_at hy), ?_⟩
        walk_at "w"
        by_cases c2 : y ≤ nn
        · rw [if_pos (by omega)]
          rw [if_pos ⟨c, c2⟩] at hsum
          obtain ⟨r, as, a, h1, h2, h3, h4, h5, h6⟩ := htg.at (j := mm + 1) (c := l.length - 1 - i) (n := nn - y) (H := B2) (by omega) (by omega) (by have := wi.left; have := w.sum; have := sum_drop l i; omega) eG
          have g1 : (rs.map V.ref)[mm + 1]? = some (.ref r) := by rw [List.getElem?_map, h1]; rfl
          refine ⟨_, .of (M4.base _ _ eP), _, atI_nat g1, _, .inl (.of (M4.base _ _ eT)), r, rfl, _, .of (M4.base _ _ h2), .ref a, ?_, _, .of (M4.base _ _ ePs), _, atI_nat (nints_at hy), ?_⟩
          · rw [nints_len, show (l.length : Int) - 1 - (i : Nat) = ((l.length - 1 - i : Nat) : Int) by omega]
            exact atI_nat h4
          walk_at "w"
          rw [show (nn : Int) - (y : Nat) = ((nn - y : Nat) : Int) by omega]
          refine ⟨_, .of (M4.base _ _ h5), _, atI_nat h6, ?_⟩
          walk_at "w"
          rw [show (f' : Int) + (Wn (ps.take (mm + 1)).reverse (l.length - 1 - i) (nn - y) : Nat) = ((f' + Wn (ps.take (mm + 1)).reverse (l.length - 1 - i) (nn - y) : Nat) : Int) by omega]
          exact hM _ _ ⟨_, by omega, M4, rfl⟩
        · rw [if_neg (by omega)]
          rw [if_neg (fun z => c2 z.2)] at hsum
          exact hM _ _ ⟨f', by omega, M4, rfl⟩
      · rintro σ H7 ⟨f2, hf2, M5, rfl⟩
        walk_at "w"
        rw [show ((mm + 1 : Nat) : Int) - 1 = (mm : Nat) by omega]
        exact ⟨mm, Nat.lt_succ_self _, hN3 _ _ _ ⟨f2, hkm2, by omega, hgt2, hf2, M5, rfl⟩⟩
    · rw [if_neg (by omega)]
      have hmk : mm = k := by
        apply Nat.le_antisymm _ (Nat.le_of_lt_succ hk1)
        exact rise_le hri hy hk (by omega)
      subst hmk
      rw [grS_low hri hk] at hsum
      rw [show (nn : Int) - (own : Nat) = ((nn - own : Nat) : Int) by omega]
      exact hN2 _ _ _ ⟨f', nn - own, mm + 1, _, _, M4, wi2, by omega, rfl⟩
  · rintro σ H4 ⟨f, nn, m, y8, y9, M1, wi, hf, rfl⟩
    rw [nints_len, List.drop_of_length_le (Nat.le_refl _)] at hf
    have hf : f + 0 = T := hf
    walk_at "w"
    rw [show f = T by omega]
    rw [← eT']
    exact q l rfl w _ (M1.down s2)
end
end Mi

namespace Mi
open PySem PySem.Spec PyProof.Rows L2
local macro_rules
  | `(tactic| walk_at "w") => `(tactic| try simp only [↓a_augS, ↓a_dget, ↓v_0, ↓n_0, ↓u_0, ↓v_1, ↓n_1, ↓u_1, ↓v_2, ↓n_2, ↓u_2, ↓v_3, ↓n_3, ↓u_3, ↓v_4, ↓n_4, ↓u_4, ↓v_5, ↓n_5, ↓u_5, ↓v_6, ↓n_6, ↓u_6, ↓v_7, ↓n_7, ↓u_7, ↓v_8, ↓n_8, ↓u_8, ↓v_9, ↓n_9, ↓u_9, ↓v_10, ↓n_10, ↓u_10, ↓v_11, ↓n_11, ↓u_11, ↓v_12, ↓n_12, ↓u_12, ↓v_13, ↓n_13, ↓u_13, ↓v_14, ↓n_14, ↓u_14, ↓v_15, ↓n_15, ↓u_15, ↓v_16, ↓n_16, ↓u_16, ↓v_17, ↓n_17, ↓u_17, ↓v_18, ↓n_18, ↓u_18, ↓v_19, ↓n_19, ↓u_19, ↓a_go, ↓g_int, ↓g_bl, ↓g_ref, ↓g_str, ↓g_rI, ↓g_rI0, ↓g_rU, ↓g_ipI, ↓g_cat, ↓g_ixL, ↓g_ixT, ↓g_slL, ↓g_append, ↓a_excV, ↓a_dispC, ↓a_dispV, ↓a_seq, ↓a_next, ↓a_tru, tru_bl, ↓b_isB, ↓b_notB, b_mulS, b_addS, b_intS, ↓b_lstRg, ↓b_rg1, ↓b_rg2, ↓a_to, b_geLI, b_dictP, ↓a_dIn, ↓a_dNotIn, b_popAt, b_abs, ↓a_glst, a_sortSet, ↓a_dput, ↓a_dnewK, ↓a_dnewT, b_sortI, ↓a_iR3, b_reprV, b_countD, ↓isi_ii, ↓isi_ib, ↓isi_bi, ↓isi_bb, ↓a_asg, ↓a_c, ↓a_op, ↓a_un, ↓a_ret, ↓a_retN, ↓a_ifS, ↓a_drop, ↓a_test, ↓a_B, ↓a_and, ↓a_or, ↓a_not, ↓a_andV, ↓a_orV, ↓a_notV, ↓a_ifE, ↓a_nil, ↓a_cons, ↓a_lst, ↓a_tup, ↓a_cb, ↓a_bm, ↓a_bm0, ↓a_sl, ↓a_po, ↓a_pn, ↓a_gsub, ↓a_gnil, ↓a_gcons, ↓a_gtup, ↓a_chain, ↓a_eq, ↓a_ne, ↓a_yes, ↓a_revL, a_slL, a_ixL, a_ixT, a_append, a_setL, a_cat, ↓a_for, ↓a_lc, ↓a_iL, ↓a_iT, ↓a_iR1, ↓a_iR2, ↓a_iE, ↓a_iZ, ↓a_iS, b_lenL, b_int1b, b_int1i, b_listOf, b_max2, b_min2, b_sum, b_rep, b_eqLI0, b_eqLI1, ↓b_isN, ↓b_notN, ↓b_listEnum, ↓b_raise0, List.getElem?_cons_zero, List.getElem?_cons_succ, List.set_cons_zero, List.set_cons_succ, Option.some.injEq, V.int.injEq, V.ref.injEq, V.bl.injEq, V.str.injEq, List.cons.injEq, and_true, true_and, exists_eq_left', exists_eq_left, exists_eq_right, exists_eq_right', exists_and_left, exists_eq', exists_eq, decide_eq_true_eq, scal_ii, scal_bb, scal_ss, wipe, ↓reduceIte, reduceCtorEq, Bool.not_eq_true', Bool.false_eq_true, not_false_eq_true, not_true_eq_false, if_true, if_false, decide_eq_false_iff_not, List.length_cons, List.length_nil, Nat.zero_add, CDiv, CMul, CPow])
local macro_rules
  | `(tactic| walk_at "z") => `(tactic| first | omega | (rw [sizeLine_eq]; simp only [↓a_augS, ↓a_dget, List.length_append, List.length_map, List.length_cons, List.length_nil, List.length_reverse, nints]; omega) | decide | (simp only [List.length_append, List.length_map, List.length_cons, List.length_nil]; omega))
section
variable {K : PySem.W.Frag} {C : Str → Addr} {H B : Hp} {Q : VK} {E : XK} {F : List (Addr × HO)} {vs : List V}
theorem rd_way_at (h : sp_way_at K C vs H Q E) : t_way_at K C E (fin Q) (start ["number", "base", "many", "place", "parts", "counts", "way", "left", "before", "at", "more", "part", "here"] vs) H := by
  obtain ⟨y, x, z, u, rfl, nb⟩ := h
  show t_way_at K C E (fin Q) [some y, some x, some z, some u, none, none, none, none, none, none, none, none, none] H
  unfold t_way_at
  have hsl := sizeLine_eq
  have hmf : mostF = 1000000 := rfl
  walk_at "w"
  refine use_mto (Led.refl H) (nb.mp fun b e hb hb2 ⟨n, m, k, e2, e3, e4, hn, hm, qE, q⟩ => ⟨n, e2, by omega, fun pa H1 L1 => ?_⟩)
  subst e
  subst e2
  subst e3
  subst e4
  have hml : (mirs b (n + 1)).length ≤ n := by
    rw [(mirs_cnt n).1]
    exact cnt_le n
  have hpos : ∀ p ∈ mirs b (n + 1), 0 < p ∧ p ≤ n := fun p hp => ⟨(mirs_mem.mp hp).2.1, by have := (mirs_mem.mp hp).1; omega⟩
  have hri : (mirs b (n + 1)).Pairwise (· < ·) := mirs_rise
  generalize mirs b (n + 1) = ps at *
  walk_at "w"
  refine use_counts L1 (L1.sqI 0 rfl) hpos (by omega) (by omega) (by omega) fun p rs ass G H3 hrs htg L3 => ?_
  have hlenps := hrs
  obtain ⟨B2, s2, hB2, M0⟩ := Led.lay (F := []) (G := (p, HO.lst (rs.map V.ref)) :: (G ++ [(pa, HO.lst (nints ps))])) (by rw [List.append_nil]; exact L3)
  have eP := hB2.at 0 rfl
  have ePs : B2 pa = some (.lst (nints ps)) := hB2 (pa, _) (List.mem_cons_of_mem _ (List.mem_append.mpr (.inr List.mem_cons_self)))
  have eG : ∀ x ∈ G, B2 x.1 = some x.2 := fun x hx => hB2 x (List.mem_cons_of_mem _ (List.mem_append.mpr (.inl hx)))
  clear hB2 L3 L1
  obtain ⟨r, as, a, c1, c2, c3, c4, c5, c6⟩ := htg.at (j := ps.length) (c := m) (n := n) (H := B2) (by omega) (Nat.le_refl _) (Nat.le_refl _) eG
  rw [List.take_of_length_le (Nat.le_refl _)] at c5 c6
  rw [if_pos (by omega)]
  refine ⟨p, rfl, _, .of (M0.base _ _ eP), _, atI_lastR hrs c1, r, rfl, _, .of (M0.base _ _ c2), _, atI_nat c4, a, rfl, _, .of (M0.base _ _ c5), _, atI_nat c6, ?_⟩
  walk_at "w"
  by_cases hk : k < Wn ps.reverse m n
  case neg =>
    rw [if_pos (by omega)]
    exact qE (by omega) H3 (M0.down s2)
  have hkl : k < (enw ps m ps.length n).length := by
    rw [enw_len _ _ _ (Nat.le_refl _), List.take_of_length_le (Nat.le_refl _)]
    exact hk
  obtain ⟨l, hl⟩ : ∃ l, (enw ps m ps.length n)[k]? = some l := ⟨_, List.getElem?_eq_getElem hkl⟩
  have q := q l
  rw [if_neg (by omega)]
  refine ⟨by omega, fun p4 hp4 => ?_⟩
  (generalize eNW : upd _ _ _ = H4; have M1 := Led.new' M0 hp4 eNW; clear eNW)
  refine ⟨_, .inl (M1.sq (.of ePs)), _, _, _, ⟨rfl, rfl, rfl⟩, _, .neg (by omega) (by omega) (by omega) (by omega), ?_⟩
  rw [show ((m : Int) - 1 - -1).toNat = m by omega, nints_len]
  refine for_rc (fun i σ H' => ∃ (wl : List Nat) (nn bf at' : Nat) (y10 y11 y12 : Option V), Led B2 [(p4, .lst (nints wl))] H' ∧ at' ≤ ps.length ∧ nn ≤ n ∧ wl.length = i ∧ (∃ r, (enw ps (m - i) at' nn)[bf]? = some r ∧ wl ++ r = l) ∧ σ = [some (.int n), some (.int b), some (.int m), some (.int k), some (.ref pa), some (.ref p), some (.ref p4), some (.int nn), some (.int bf), some (.int at'), y10, y11, y12])
    ⟨[], n, k, ps.length, _, _, _, M1, Nat.le_refl _, Nat.le_refl _, rfl, ⟨l, hl, rfl⟩, rfl⟩ ?_ ?_
  · rintro N2 hN2 i σ H5 hi ⟨wl, nn, bf, at', y10, y11, y12, M2, hat, hnn, hwl, ⟨r', hr, hwr⟩, rfl⟩
    show t_way_at_b3 K C E _ _ _
    unfold t_way_at_b3
    walk_at "w"
    obtain ⟨c, hc⟩ : ∃ c, m - i = c + 1 := ⟨m - i - 1, by omega⟩
    rw [hc] at hr
    rw [show (m : Int) - 1 + (i : Nat) * (-1) = (c : Nat) by omega]
    refine whl (fun aa σ H' => ∃ (bf' : Nat) (y11 y12 : Option V), aa ≤ ps.length ∧ (enw ps (c + 1) aa nn)[bf']? = some r' ∧ Led B2 [(p4, .lst (nints wl))] H' ∧ σ = [some (.int n), some (.int b), some (.int m), some (.int k), some (.ref pa), some (.ref p), some (.ref p4), some (.int nn), some (.int bf'), some (.int aa), some (.int c), y11, y12]) at' ⟨bf, _, _, hat, hr, M2, rfl⟩ ?_
    rintro N3 hN3 aa σ H6 ⟨bf', y11, y12, haa, hr2, M3, rfl⟩
    obtain ⟨a1, rfl⟩ : ∃ a1, aa = a1 + 1 := by
      cases aa with
      | zero => cases hr2
      | succ a1 => exact ⟨a1, rfl⟩
    obtain ⟨y, hy⟩ : ∃ y, ps[a1]? = some y := ⟨_, List.getElem?_eq_getElem (by omega)⟩
    walk_at "w"
    refine whb ?_
    show t_way_at_b1 K C E _ _ _
    unfold t_way_at_b1
    walk_at "w"
    rw [show ((a1 + 1 : Nat) : Int) - 1 = (a1 : Nat) by omega]
    refine ⟨_, .of (M3.base _ _ ePs), _, atI_nat (nints_at hy), ?_⟩
    walk_at "w"
    have hr3 : (blkW ps (enw ps c) a1 nn ++ enw ps (c + 1) a1 nn)[bf']? = some r' := hr2
    rw [blkW_eq hy] at hr3
    refine cut_ (fun σ H' => Led B2 [(p4, .lst (nints wl))] H' ∧ σ = [some (.int n), some (.int b), some (.int m), some (.int k), some (.ref pa), some (.ref p), some (.ref p4), some (.int nn), some (.int bf'), some (.int (a1 + 1 : Nat)), some (.int c), some (.int y), some (.int ((if y ≤ nn then (enw ps c (a1 + 1) (nn - y)).map (y :: ·) else []).length : Nat))]) (fun M hM => ?_) ?_
    · walk_at "w"
      by_cases c2 : y ≤ nn
      · rw [if_pos (by omega)]
        obtain ⟨r4, as4, a4, h1, h2, h3, h4, h5, h6⟩ := htg.at (j := a1 + 1) (c := c) (n := nn - y) (H := B2) (by omega) (by omega) (by omega) eG
        have g1 : (rs.map V.ref)[a1 + 1]? = some (.ref r4) := by rw [List.getElem?_map, h1]; rfl
        refine ⟨_, .of (M3.base _ _ eP), _, atI_nat g1, r4, rfl, _, .of (M3.base _ _ h2), _, atI_nat h4, a4, rfl, ?_⟩
        rw [show (nn : Int) - (y : Nat) = ((nn - y : Nat) : Int) by omega]
        refine ⟨_, .of (M3.base _ _ h5), _, atI_nat h6, ?_⟩
        refine hM _ _ ⟨M3, ?_⟩
        rw [if_pos c2, List.length_map, enw_len c (a1 + 1) _ (by omega)]
      · rw [if_neg (by omega)]
        refine hM _ _ ⟨M3, ?_⟩
        rw [if_neg c2]
        rfl
    · rintro σ H7 ⟨M4, rfl⟩
      generalize eZ : (if y ≤ nn then (enw ps c (a1 + 1) (nn - y)).map (y :: ·) else []) = Z at hr3
      walk_at "w"
      by_cases c3 : bf' < Z.length
      · rw [if_pos (by omega)]
        rw [List.getElem?_append_left c3] at hr3
        show t_way_at_r2 K C E _ _ _
        unfold t_way_at_r2
        have c2 : y ≤ nn := by
          apply Nat.le_of_not_lt
          intro z
          rw [if_neg (by omega)] at eZ
          rw [← eZ] at c3
          exact Nat.not_lt_zero _ c3
        rw [if_pos c2] at eZ
        rw [← eZ, List.getElem?_map] at hr3
        obtain ⟨r2, hr4, e4⟩ := Option.map_eq_some_iff.mp hr3
        subst e4
        walk_at "w"
        refine ⟨.inl ⟨rfl, _, M4.sqI 0 rfl⟩, _, M4.get 0 rfl, by rw [nints_len]; omega, ?_⟩
        have M5 := M4.put 0 rfl (o' := HO.lst (nints wl ++ [V.int (y : Nat)]))
        rw [show (nn : Int) - (y : Nat) = ((nn - y : Nat) : Int) by omega]
        have hc2 : m - (i + 1) = c := by omega
        refine hN2 _ _ _ ⟨wl ++ [y], nn - y, bf', a1 + 1, _, _, _, ?_, by omega, by omega, by rw [List.length_append, hwl]; rfl, ⟨r2, by rw [hc2]; exact hr4, by rw [List.append_assoc]; exact hwr⟩, rfl⟩
        rw [nints_append]
        exact M5
      · rw [if_neg (by omega)]
        rw [List.getElem?_append_right (by omega)] at hr3
        rw [show ((a1 + 1 : Nat) : Int) - 1 = (a1 : Nat) by omega, show (bf' : Int) - (Z.length : Nat) = ((bf' - Z.length : Nat) : Int) by omega]
        exact ⟨a1, Nat.lt_succ_self _, hN3 _ _ _ ⟨_, _, _, by omega, hr3, M4, rfl⟩⟩
  · rintro σ H5 ⟨wl, nn, bf, at', y10, y11, y12, M2, hat, hnn, hwl, ⟨r', hr, hwr⟩, rfl⟩
    walk_at "w"
    rw [Nat.sub_self] at hr
    have hr : (if nn = 0 then [[]] else ([] : List (List Nat)))[bf]? = some r' := hr
    have : r' = [] := by
      split at hr
      · have := List.mem_of_getElem? hr
        exact List.mem_singleton.mp this
      · cases hr
    subst this
    rw [List.append_nil] at hwr
    subst hwr
    exact q _ _ hl (M2.down s2)
end
end Mi

namespace Mi
open PySem PySem.Spec PyProof.Rows L2
local macro_rules
  | `(tactic| walk_at "w") => `(tactic| try simp only [↓a_par, ↓a_fdG, ↓a_meG, ↓a_mkG, ↓a_sfdG, ↓a_tupG, ↓a_upper, ↓a_split, ↓a_join, ↓b_split, ↓b_join, ↓b_ixS, ↓b_notInS, ↓a_augS, ↓a_dget, ↓v_0, ↓n_0, ↓u_0, ↓v_1, ↓n_1, ↓u_1, ↓v_2, ↓n_2, ↓u_2, ↓v_3, ↓n_3, ↓u_3, ↓v_4, ↓n_4, ↓u_4, ↓v_5, ↓n_5, ↓u_5, ↓v_6, ↓n_6, ↓u_6, ↓v_7, ↓n_7, ↓u_7, ↓v_8, ↓n_8, ↓u_8, ↓v_9, ↓n_9, ↓u_9, ↓v_10, ↓n_10, ↓u_10, ↓v_11, ↓n_11, ↓u_11, ↓v_12, ↓n_12, ↓u_12, ↓v_13, ↓n_13, ↓u_13, ↓v_14, ↓n_14, ↓u_14, ↓v_15, ↓n_15, ↓u_15, ↓v_16, ↓n_16, ↓u_16, ↓v_17, ↓n_17, ↓u_17, ↓v_18, ↓n_18, ↓u_18, ↓v_19, ↓n_19, ↓u_19, ↓a_go, ↓g_int, ↓g_bl, ↓g_ref, ↓g_str, ↓g_rI, ↓g_rI0, ↓g_rU, ↓g_ipI, ↓g_cat, ↓g_ixL, ↓g_ixT, ↓g_slL, ↓g_append, ↓a_excV, ↓a_dispC, ↓a_dispV, ↓a_seq, ↓a_next, ↓a_tru, tru_bl, ↓b_isB, ↓b_notB, b_mulS, b_addS, b_intS, ↓b_lstRg, ↓b_rg1, ↓b_rg2, ↓a_to, b_geLI, b_gtLI, b_dictP, ↓a_dIn, ↓a_dNotIn, b_popAt, b_abs, ↓a_glst, a_sortSet, ↓a_dput, ↓a_dnewK, ↓a_dnewT, b_sortI, ↓a_iR3, b_reprV, b_countD, a_sortSetN, ↓isi_ii, ↓isi_ib, ↓isi_bi, ↓isi_bb, ↓a_asg, ↓a_c, ↓a_op, ↓a_un, ↓a_ret, ↓a_retN, ↓a_ifS, ↓a_drop, ↓a_test, ↓a_B, ↓a_and, ↓a_or, ↓a_not, ↓a_andV, ↓a_orV, ↓a_notV, ↓a_ifE, ↓a_nil, ↓a_cons, ↓a_lst, ↓a_tup, ↓a_cb, ↓a_bm, ↓a_bm0, ↓a_sl, ↓a_po, ↓a_pn, ↓a_gsub, ↓a_gnil, ↓a_gcons, ↓a_gtup, ↓a_chain, ↓a_eq, ↓a_ne, ↓a_yes, ↓a_revL, a_slL, a_ixL, a_ixT, a_append, a_setL, a_cat, ↓a_for, ↓a_lc, ↓a_iL, ↓a_iT, ↓a_iR1, ↓a_iR2, ↓a_iE, ↓a_iZ, ↓a_iS, b_lenL, b_int1b, b_int1i, b_listOf, b_max2, b_min2, b_sum, b_rep, b_eqLI0, b_eqLI1, ↓b_isN, ↓b_notN, ↓b_listEnum, ↓b_raise0, List.getElem?_cons_zero, List.getElem?_cons_succ, List.set_cons_zero, List.set_cons_succ, Option.some.injEq, V.int.injEq, V.ref.injEq, V.bl.injEq, V.str.injEq, List.cons.injEq, and_true, true_and, exists_eq_left', exists_eq_left, exists_eq_right, exists_eq_right', exists_and_left, exists_eq', exists_eq, decide_eq_true_eq, scal_ii, scal_bb, scal_ss, wipe, ↓reduceIte, reduceCtorEq, Bool.not_eq_true', Bool.false_eq_true, not_false_eq_true, not_true_eq_false, if_true, if_false, decide_eq_false_iff_not, List.length_cons, List.length_nil, Nat.zero_add, CDiv, CMul, CPow])
local macro_rules
  | `(tactic| walk_at "z") => `(tactic| first | omega | (rw [sizeLine_eq]; simp only [↓a_augS, ↓a_dget, List.length_append, List.length_map, List.length_cons, List.length_nil, List.length_reverse, nints]; omega) | decide | (simp only [List.length_append, List.length_map, List.length_cons, List.length_nil]; omega))
section
variable {K : PySem.W.Frag} {C : Str → Addr} {H B : Hp} {Q : VK} {E : XK} {F : List (Addr × HO)} {vs : List V}
theorem rd__law_deck_e (h : sp__law_deck_e K C vs H Q E) : t__law_deck_e K C E (fin Q) (start ["cell", "k"] vs) H := by
  obtain ⟨c, k, rfl, q⟩ := h
  show t__law_deck_e K C E (fin Q) [some (.int c), some (.int k)] H
  unfold t__law_deck_e
  have hsl := sizeLine_eq
  have L0 := Led.refl H
  walk_at "w"
  refine ⟨⟨by decide, by decide, by decide⟩, ?_⟩
  by_cases c1 : (10 : Int) ^ Int.toNat 18 ≤ c
  · rw [if_pos c1]
    refine ⟨⟨by decide, by decide, by decide⟩, by omega, fun p hp => ?_⟩
    (generalize eNW : upd _ _ _ = H1; have L1 := Led.new' L0 hp eNW; clear eNW)
    exact q p H1 _ 0 (by decide) L1
  · rw [if_neg c1]
    refine ⟨by omega, fun p hp => ?_⟩
    (generalize eNW : upd _ _ _ = H1; have L1 := Led.new' L0 hp eNW; clear eNW)
    exact q p H1 _ 1 (by decide) L1
theorem rd__law_take_e (h : sp__law_take_e K C vs H Q E) : t__law_take_e K C E (fin Q) (start ["deck", "many", "number", "come"] vs) H := by
  obtain ⟨a, d, f, c, m, rfl, ha, hf, hc, hm, hm2, q⟩ := h
  show t__law_take_e K C E (fin Q) [some (.ref a), some (.int m), none, none] H
  unfold t__law_take_e
  have hsl := sizeLine_eq
  have L0 := Led.own1 ha
  unfold dkO at L0
  walk_at "w"
  refine ⟨_, L0.sqI 0 rfl, _, atI_nat (j := 1) rfl, rfl, ?_⟩
  have hmd : ∀ x : Int, 0 ≤ x % (m : Int) ∧ x % (m : Int) < m := fun x => ⟨Int.emod_nonneg _ (by omega), Int.emod_lt_of_pos _ (by omega)⟩
  by_cases cf : V.int (f : Nat) = .int 0
  · rw [if_pos cf]
    refine ⟨_, L0.sqI 0 rfl, _, atI_nat (j := 0) rfl, ?_⟩
    walk_at "w"
    refine ⟨by omega, _, L0.sqI 0 rfl, _, atI_nat (j := 0) rfl, ?_⟩
    walk_at "w"
    obtain ⟨g1, g2⟩ := hmd d
    obtain ⟨g, hg⟩ := Int.eq_ofNat_of_zero_le g1
    rw [hg]
    refine ⟨⟨by omega, by omega⟩, _, L0.get 0 rfl, 0, rfl, ?_⟩
    generalize eP : upd _ _ _ = H1
    have L1 := L0.put' 0 rfl eP
    clear eP
    exact q H1 _ c g (by omega) (by omega) L1
  rw [if_neg cf]
  refine ⟨_, L0.sqI 0 rfl, _, atI_nat (j := 2) rfl, ?_⟩
  walk_at "w"
  refine ⟨_, L0.get 0 rfl, 2, rfl, ?_⟩
  generalize eP : upd _ _ _ = H1
  have L1 := L0.put' 0 rfl eP
  clear eP
  refine ⟨_, L1.sqI 0 rfl, _, atI_nat (j := 0) rfl, ?_⟩
  walk_at "w"
  refine ⟨by decide, _, L1.sqI 0 rfl, _, atI_nat (j := 2) rfl, _, L1.sqI 0 rfl, _, atI_nat (j := 2) rfl, ?_⟩
  walk_at "w"
  have e1 := Int.emod_nonneg d (show (2147483647 : Int) ≠ 0 by decide)
  have e2 := Int.emod_lt_of_pos d (show (0 : Int) < 2147483647 by decide)
  refine ⟨.inl (by omega), .inl (by omega), _, L1.sqI 0 rfl, _, atI_nat (j := 2) rfl, ?_⟩
  walk_at "w"
  generalize d % 2147483647 * (((c : Int) + 1) * ((c : Int) + 1) + 48271) + ((c : Int) + 1) + 7 = y
  have y1 := Int.emod_nonneg y (show (2147483629 : Int) ≠ 0 by decide)
  have y2 := Int.emod_lt_of_pos y (show (0 : Int) < 2147483629 by decide)
  generalize y % 2147483629 = y at y1 y2
  refine ⟨by decide, .inl (by omega), by decide, .inr (by decide), by decide, by decide, ?_⟩
  obtain ⟨g1, g2⟩ := hmd (y * y % 2147483587 * 69621 % 2147483563 / 8)
  obtain ⟨g, hg⟩ := Int.eq_ofNat_of_zero_le g1
  rw [hg]
  exact ⟨by omega, q H1 d (c + 1) g (by omega) (by omega) L1⟩
theorem use_take45 {a : Addr} {d : Int} {f c m : Nat} (L : Led B F H) (i : Nat) (hF : F[i]? = some (a, dkO d f c)) (hf : f ≤ 1) (hc : c ≤ 1000000) (hm : 0 < m) (hm2 : m ≤ 1000000000)
    (q : ∀ H' (d' : Int) (c' g : Nat), c' ≤ c + 1 → g < m → Led B (F.set i (a, dkO d' f c')) H' → Q (.int (g : Nat)) H') : sp__law_take_e K C [.ref a, .int (m : Nat)] H Q E :=
  ⟨a, d, f, c, m, rfl, L.get i hF, hf, hc, hm, hm2, fun H' d' c' g hc' hg M => q H' d' c' g hc' hg (L.stepOwn (G := []) i hF M)⟩
theorem dT_tl {n : Nat} : TL.tl (dT n) = TL.numL n := TL.tl_num n
theorem dT_len {n : Nat} (h : n < 10 ^ 40) : (dT n).length ≤ 40 := by
  rw [TL.len_tl, dT_tl]
  exact TL.numL_len (by decide) h
theorem map_dT {l : List Nat} : (l.map dT).map V.str = l.map fun d => V.str (dT d) := by rw [List.map_map]; rfl
theorem sum_dTk {k : Nat} : ∀ {l : List Nat}, (∀ d ∈ l, (dT d).length ≤ k) → ((l.map dT).map (·.length)).sum ≤ k * l.length
  | [], _ => Nat.zero_le _
  | d :: l, h => by
    have h1 := h d List.mem_cons_self
    have h2 := sum_dTk (l := l) fun x hx => h x (List.mem_cons_of_mem _ hx)
    show (dT d).length + ((l.map dT).map (·.length)).sum ≤ k * (l.length + 1)
    rw [Nat.mul_succ]
    omega
theorem dT_lenk {n : Nat} (h : n ≤ 10 ^ 40) : (dT n).length ≤ 41 := by
  rw [TL.len_tl, dT_tl]
  exact TL.numL_len (by decide) (Nat.lt_of_le_of_lt h (by decide))
theorem log_dTk {n k : Nat} (h : n < 2 ^ k) : ((n : Nat) : Int).natAbs.log2 ≤ k := by
  by_cases c : ((n : Nat) : Int).natAbs = 0
  · rw [c]
    exact Nat.zero_le _
  · exact Nat.le_of_lt ((Nat.log2_lt c).mpr (by omega))
/-- [str(n) for n in way] -/
theorem lc_dT {a : Addr} {l : List Nat} {j : Nat} {P : Addr} {Qd : Hp → Prop} {σ : _root_.L2.St} {te : TE} {vs : List Nat} (L : Led B F H) (hP : H P = none) (hS : ∀ H, Led B F H → SqL K H a (nints l)) (hl : l.length ≤ 1000)
    (hw : ∀ x, wipe ((wipe σ vs).set j (some x)) vs = wipe σ vs) (he : ∀ (d : Nat) H R, d ∈ l → R (.str (dT d)) H → te ((wipe σ vs).set j (some (.int (d : Nat)))) H R)
    (hd : ∀ H', Led B ((P, .lst ((l.map dT).map V.str)) :: F) H' → Qd H') : LcG (Itl K a) (gName j) tYes te vs σ P Qd H := by
  refine lc_l L hP hS (fun i => ((l.take i).map dT).map V.str) rfl (fun i x H1 hx L1 => ⟨hw _, ?_⟩) fun H' L' => ?_
  · obtain ⟨d, hd2, rfl⟩ := nints_get hx
    rw [a_yes, if_pos rfl]
    refine he d _ _ (List.mem_of_getElem? hd2) (lc_y L1 ?_ ?_)
    · rw [take_succ_get hd2, List.map_append, List.map_append]
      rfl
    · rw [List.length_map, List.length_map, List.length_take, sizeLine_eq]
      omega
  · rw [nints_len, List.take_of_length_le (Nat.le_refl _)] at L'
    exact hd _ L'
theorem figs10 {c : Nat} : c ∈ (Str.ofString "0123456789").cps.toList ↔ 48 ≤ c ∧ c ≤ 57 := by
  have e : (Str.ofString "0123456789").cps.toList = [48, 49, 50, 51, 52, 53, 54, 55, 56, 57] := by decide +kernel
  rw [e]
  simp only [List.mem_cons, List.not_mem_nil, or_false]
  omega
theorem rd_number_in (h : sp_number_in K C vs H Q E) : t_number_in K C E (fin Q) (start ["word", "most", "figure", "number"] vs) H := by
  obtain ⟨z, most, rfl, hz, q, qE⟩ := h
  show t_number_in K C E (fin Q) [some (.str z), some (.int most), none, none] H
  unfold t_number_in
  have hsl := sizeLine_eq
  have L0 := Led.refl H
  walk_at "w"
  refine ⟨_, rfl, by omega, ?_⟩
  walk_at "w"
  have bad : (¬ NumOk z) → ∀ H', Led H [] H' → E (.ref (C "NoCommand")) none H' := fun c => qE fun n h => c h.1
  by_cases c1 : 1 ≤ z.length
  case neg =>
    rw [if_neg (by omega)]
    exact bad (fun h => c1 h.lo) H L0
  rw [if_pos (by omega)]
  by_cases c2 : z.length ≤ 41
  case neg =>
    rw [if_pos (by omega)]
    exact bad (fun h => c2 h.hi) H L0
  rw [if_neg (by omega)]
  have hlen : z.cps.toList.length = z.length := Array.length_toList
  obtain ⟨c0, r0, hcs⟩ : ∃ c0 r0, z.cps.toList = c0 :: r0 := by
    cases e : z.cps.toList with
    | nil =>
      rw [e] at hlen
      have : (0 : Nat) = z.length := hlen
      omega
    | cons c r => exact ⟨c, r, rfl⟩
  refine ⟨by omega, c0, by rw [hcs]; exact atI_nat (j := 0) rfl, ?_⟩
  have loop : ¬ (z.cps.toList.head? = some 48 ∧ z ≠ "0") → ForG (Its z) (gName 2) (t_number_in_b1 K C E) { nx := t_number_in_r2 K C E (fin Q), rt := Q } [some (V.str z), some (V.int most), none, none] H := fun hh => by
    refine for_g walk_str (fun i σ H' => Led H [] H' ∧ (∀ j c, j < i → z.cps[j]? = some c → 48 ≤ c ∧ c ≤ 57) ∧ ∃ y1 y2, σ = [some (.str z), some (.int most), y1, y2]) ⟨L0, (fun _ _ h => absurd h (Nat.not_lt_zero _)), _, _, rfl⟩ (fun _ _ _ _ _ => trivial) ?_ ?_
    · rintro i x σ H1 H2 hi ⟨L1, hd, y1, y2, rfl⟩ ⟨rfl, c, hc, rfl⟩
      show t_number_in_b1 K C E _ _ _
      unfold t_number_in_b1
      walk_at "w"
      by_cases k' : c ∈ (Str.ofString "0123456789").cps.toList
      · have k := figs10.mp k'
        rw [if_neg (fun z => z k')]
        refine ⟨L1, fun j d hj hd2 => ?_⟩
        by_cases e : j = i
        · subst e
          rw [hc] at hd2
          cases hd2
          exact k
        · exact hd j d (by omega) hd2
      · have k := fun z => k' (figs10.mpr z)
        rw [if_pos k']
        exact bad (fun h => k (h.dg c (Array.mem_toList_iff.mpr (Array.mem_of_getElem? hc)))) _ L1
    · rintro σ H1 ⟨L1, hd, y1, y2, rfl⟩
      have hdg : PySem.NumText.AllDigits z.cps.toList := fun c hc => by
        obtain ⟨j, hj⟩ := List.mem_iff_getElem?.mp hc
        have hj2 := (List.getElem?_eq_some_iff.mp hj).1
        rw [Array.getElem?_toList] at hj
        exact hd j c (by rw [hlen] at hj2; exact hj2) hj
      have ok : NumOk z := ⟨c1, c2, hh, hdg⟩
      show t_number_in_r2 K C E _ _ _
      unfold t_number_in_r2
      walk_at "w"
      refine ⟨_, PySem.intText_digits hdg (by rw [hcs]; exact fun z => nomatch z) (by omega), by omega, ?_⟩
      walk_at "w"
      by_cases k : PySem.NumText.digitsVal z.cps.toList ≤ most
      · rw [if_neg (by omega)]
        exact q _ ⟨ok, rfl, k⟩ H1 L1
      · rw [if_pos (by omega)]
        refine qE (fun n h => k ?_) H1 L1
        rw [h.2.1]
        exact h.2.2
  have e0 : (Str.ofString "0").cps.toList = [48] := by decide
  by_cases c3 : c0 = 48
  · rw [if_pos (by
      rw [c3]
      rfl)]
    by_cases c4 : z = Str.ofString "0"
    · rw [if_neg (fun h => h c4)]
      exact loop fun h => h.2 c4
    · rw [if_pos c4]
      exact bad (fun h => h.hd ⟨by rw [hcs, c3]; rfl, c4⟩) H L0
  · rw [if_neg (fun h => by
      have := congrArg (fun s : Str => s.cps.toList) h
      rw [e0] at this
      exact c3 (List.head_eq_of_cons_eq this))]
    exact loop fun h => by
      rw [hcs] at h
      exact c3 (Option.some.inj h.1)
theorem rd_show_way_dk (h : sp_show_way_dk K C vs H Q E) : t_show_way_dk K C E (fin Q) (start ["way", "number"] vs) H := by
  obtain ⟨a, l, rfl, hS, hl, hd, q⟩ := h
  show t_show_way_dk K C E (fin Q) [some (.ref a), none] H
  unfold t_show_way_dk
  have hsl := sizeLine_eq
  have L0 := Led.refl H
  walk_at "w"
  refine ⟨Nat.zero_le _, fun p hp => ?_⟩
  (generalize eNW : upd _ _ _ = H1; have L1 := Led.new' L0 hp eNW; clear eNW)
  refine ⟨l.map fun (d : Nat) => (d : Int), L1.sq hS, [], L1.sqI 0 rfl, ?_⟩
  by_cases c : l = []
  · rw [if_pos (by rw [c]; rfl)]
    have := q H1 L1.none
    unfold wT at this
    rwa [if_pos c] at this
  rw [if_neg (fun z => c (List.map_eq_nil_iff.mp z))]
  walk_at "w"
  refine ⟨⟨_, L1.sq hS⟩, fun P hP => ?_⟩
  refine lc_dT L1 hP (fun H L => L.sq hS) (by omega) (fun _ => rfl) (fun d H R hd2 hR => ?_) fun H2 L2 => ?_
  · walk_at "w"
    exact ⟨_, rfl, Nat.lt_of_le_of_lt (log_dTk (k := 133) (Nat.lt_of_le_of_lt (hd d hd2) (by decide))) (by decide), hR⟩
  have hs := sum_dTk (k := 41) fun d h => dT_lenk (hd d h)
  refine ⟨l.map dT, .inl (L2.sqI 0 rfl), ?_, ?_⟩
  · rw [List.length_map]
    have : (Str.ofString " + ").length = 3 := by decide
    rw [this]
    omega
  · have := q H2 L2.none
    unfold wT at this
    rwa [if_neg c] at this
theorem rd_Desk_init (h : sp_Desk_init K C vs H Q E) : t_Desk_init K C E (fin Q) (start ["self"] vs) H := by
  obtain ⟨p, dx, rfl, hp, q⟩ := h
  show t_Desk_init K C E (fin Q) [some (.ref p)] H
  unfold t_Desk_init
  walk_at "w"
  refine ⟨dx, [], hp, by decide, q _ ?_⟩
  exact (Led.own1 hp).put 0 rfl
theorem rd_Desk_new_base (h : sp_Desk_new_base K C vs H Q E) : t_Desk_new_base K C E (fin Q) (start ["self", "number"] vs) H := by
  obtain ⟨p, dx, b, n, rfl, hp, q, qE⟩ := h
  show t_Desk_new_base K C E (fin Q) [some (.ref p), some (.int n)] H
  unfold t_Desk_new_base
  walk_at "w"
  by_cases c1 : 2 ≤ n
  case neg =>
    rw [if_neg (by omega)]
    exact qE (fun h => c1 h.1) H (Led.refl H)
  rw [if_pos (by omega)]
  by_cases c2 : n ≤ 36
  case neg =>
    rw [if_pos (by omega)]
    exact qE (fun h => c2 h.2) H (Led.refl H)
  rw [if_neg (by omega)]
  refine ⟨dx, _, hp, (show 1 < 1000 by decide), q ⟨c1, c2⟩ _ ?_⟩
  exact (Led.own1 hp).put 0 rfl
theorem rd_Desk_nearby (h : sp_Desk_nearby K C vs H Q E) : t_Desk_nearby K C E (fin Q) (start ["self", "head", "number"] vs) H := by
  obtain ⟨p, dx, b, n, h, rfl, hp, hb, hb2, hn, hh, q, qE⟩ := h
  show t_Desk_nearby K C E (fin Q) [some (.ref p), some (.str h), some (.int n)] H
  unfold t_Desk_nearby
  walk_at "w"
  have hlk : List.lookup (Str.ofString "base") [(("base" : Str), V.int (b : Nat))] = some (V.int (b : Nat)) := rfl
  have hl1 : n < lim1 := Nat.lt_of_le_of_lt hn (by decide +kernel)
  have L0 := Led.refl H
  have fits : ∀ m : Nat, m < 2 ^ 1000 → ((m : Nat) : Int).natAbs.log2 < 1920 := fun m hm => Nat.lt_of_le_of_lt (log_dTk hm) (by decide)
  by_cases c1 : h = Str.ofString "below"
  · rw [if_pos c1]
    refine ⟨dx, _, hp, _, hlk, ?_⟩
    refine use_low L0 hb hb2 hl1 fun H1 L1 => ?_
    have := q (fun z => by rw [c1] at z; exact absurd z.1 (by decide)) H1 L1
    unfold nearT at this
    rw [if_pos c1] at this
    exact ⟨_, rfl, fits _ (Nat.lt_of_le_of_lt (low_le hb) (Nat.lt_of_le_of_lt hn (by decide +kernel))), this⟩
  rw [if_neg c1]
  by_cases c2 : h = Str.ofString "above"
  · rw [if_pos c2]
    refine ⟨dx, _, hp, _, hlk, ?_⟩
    refine use_high L0 hb hb2 hl1 fun H1 L1 => ?_
    have := q (fun z => by rw [c2] at z; exact absurd z.1 (by decide)) H1 L1
    unfold nearT at this
    rw [if_neg c1, if_pos c2] at this
    exact ⟨_, rfl, fits _ (Nat.lt_of_le_of_lt (high_bound hb hb2) (Nat.lt_of_le_of_lt (Nat.mul_le_mul_left 36 (Nat.succ_le_succ hn)) (by decide +kernel))), this⟩
  rw [if_neg c2]
  have hcn : cnt b n < 2 ^ 1000 := Nat.lt_of_le_of_lt (cnt_le n) (Nat.lt_of_le_of_lt hn (by decide +kernel))
  by_cases c3 : h = Str.ofString "count"
  · rw [if_pos c3]
    refine ⟨dx, _, hp, _, hlk, ?_⟩
    refine use_many L0 hb hb2 hl1 fun H1 L1 => ?_
    have := q (fun z => by rw [c3] at z; exact absurd z.1 (by decide)) H1 L1
    unfold nearT at this
    rw [if_neg c1, if_neg c2] at this
    exact ⟨_, rfl, fits _ hcn, this⟩
  rw [if_neg c3]
  refine ⟨dx, _, hp, _, hlk, ?_⟩
  have c4 : h = Str.ofString "place" := by
    rcases hh with z | z | z | z
    · exact (c1 z).elim
    · exact (c2 z).elim
    · exact (c3 z).elim
    · exact z
  cases hm : mir b n with
  | true =>
    refine use_place L0 hb hb2 hl1 hm fun H1 L1 => ?_
    have := q (fun z => by rw [hm] at z; exact nomatch z.2) H1 L1
    unfold nearT at this
    rw [if_neg c1, if_neg c2] at this
    exact ⟨_, rfl, fits _ hcn, this⟩
  | false =>
    refine ⟨_, _, rfl, NB.good hb hb2 ⟨trivial, ?_, fun _ H1 L1 => qE ⟨c4, hm⟩ H1 L1, fun m e hm2 => ?_⟩⟩
    · exact (show ((n : Nat) : Int) < (lim1 : Nat) by omega)
    · have := V.int.inj e
      have e2 : n = m := by omega
      rw [← e2, hm] at hm2
      cases hm2
end
end Mi

namespace Mi
open PySem PySem.Spec PyProof.Rows L2
/-- the number that a word writes -/
def wv (z : Str) : Option Nat := if 1 ≤ z.length ∧ z.length ≤ 40 ∧ z.cps.toList.head? ≠ some 48 ∧ z.cps.toList.all (fun c => decide (48 ≤ c) && decide (c ≤ 57)) = true then some (PySem.NumText.digitsVal z.cps.toList) else none
def vO : Option Nat → V
  | some n => .int (n : Nat)
  | none => .non
def wds (z : Str) : List (Option Nat) := if z = "0" then [] else (Txt.split z " + ").map wv
/-- it is the text of a way -/
def TxtW (z : Str) (l : List Nat) : Prop := wds z = l.map some ∧ l.Pairwise (· ≥ ·)
def sp_read_number (K : PySem.W.Frag) (C : Str → Addr) : Sp := fun vs H Q E => ∃ z : Str, vs = [.str z] ∧ z.length ≤ 100000 ∧ (∀ n, wv z = some n → ∀ H', Led H [] H' → Q (.int (n : Nat)) H') ∧ (wv z = none → ∀ H', Led H [] H' → E (.ref (C "NoText")) none H')
def sp_read_way (K : PySem.W.Frag) (C : Str → Addr) : Sp := fun vs H Q E => ∃ z : Str, vs = [.str z] ∧ z.length ≤ 100000 ∧ (∀ l p H', TxtW z l → Led H [(p, .lst (nints l))] H' → Q (.ref p) H') ∧ ((∀ l, ¬ TxtW z l) → ∀ H', Led H [] H' → E (.ref (C "NoText")) none H')
def sp__law_text_e (K : PySem.W.Frag) (C : Str → Addr) : Sp := fun vs H Q E => ∃ (a : Addr) (d : Int) (f c : Nat), vs = [.ref a] ∧ H a = some (dkO d f c) ∧ f ≤ 1 ∧ c ≤ 1000 ∧
  ∀ z H' (d' : Int) (c' : Nat), c' ≤ c + 1000 → z.length ≤ 1400 → Led (rmv H a) [(a, dkO d' f c')] H' → Q (.str z) H'
def sp__law_bad_e (K : PySem.W.Frag) (C : Str → Addr) : Sp := fun vs H Q E => ∃ (a : Addr) (d : Int) (f c : Nat), vs = [.ref a] ∧ H a = some (dkO d f c) ∧ f ≤ 1 ∧ c ≤ 100000 ∧
  ∀ z H' (d' : Int) (c' : Nat), c' ≤ c + 10 → z.length ≤ 900 → Led (rmv H a) [(a, dkO d' f c')] H' → Q (.str z) H'
def sp__law_spoilt_e (K : PySem.W.Frag) (C : Str → Addr) : Sp := fun vs H Q E => ∃ (a : Addr) (d : Int) (f c : Nat) (y : Str), vs = [.ref a, .str y] ∧ H a = some (dkO d f c) ∧ f ≤ 1 ∧ c ≤ 10000 ∧ y.length ≤ 1400 ∧
  ∀ z H', z.length ≤ 3900 → Led (rmv H a) [] H' → Q (.str z) H'
def sp__law_number_in_e (K : PySem.W.Frag) (C : Str → Addr) : Sp := fun vs H Q E => ∃ z : Str, vs = [.str z] ∧ z.length ≤ 100000 ∧ ∀ H', Led H [] H' → Q (vO (wv z)) H'
def sp__law_right_e (K : PySem.W.Frag) (C : Str → Addr) : Sp := fun vs H Q E => ∃ z : Str, vs = [.str z] ∧ z.length ≤ 3900 ∧ ∀ H', Led H [] H' → Q (.bl true) H'
def sp_law (K : PySem.W.Frag) (C : Str → Addr) : Sp := fun vs H Q E => ∃ (a : Addr) (ns : List Int), vs = [.ref a] ∧ SqL K H a (ns.map V.int) ∧ ns.length ≤ 63 ∧ ∀ H', Q (.bl true) H'
def t_read_number_b1 (K : PySem.W.Frag) (C : Str → Addr) (E : XK) : TS :=
  (tIfS (tTest (tOp rNotInS (tVar 1) (tC (.str "0123456789")))) (tRaise0 E (.ref (C "NoText"))) tNext)
def t_read_number (K : PySem.W.Frag) (C : Str → Addr) (E : XK) : TS :=
  (tSeq (tIfS (tOr (tNot (tTest (tChain (rI0 fun i j => .bl (decide (i ≤ j))) (rI0 fun i j => .bl (decide (i ≤ j))) (tC (.int 1)) (tCB rLenT (tCons (tVar 0) tNil)) (tC (.int 40))))) (tTest (tOp rEq (tOp rIxS (tVar 0) (tC (.int 0))) (tC (.str "0"))))) (tRaise0 E (.ref (C "NoText"))) tNext)
    (tSeq (tFor (iStr (tVar 0)) (gName 1) (t_read_number_b1 K C E))
    (tRet (tCB rIntS (tCons (tVar 0) tNil)))))
def t_read_way_b1 (K : PySem.W.Frag) (C : Str → Addr) (E : XK) : TS :=
  (tIfS (tTest (tOp (rI0 fun i j => .bl (decide (j < i))) (tOp (rIxL K) (tVar 1) (tVar 2)) (tOp (rIxL K) (tVar 1) (tOp (rI0 fun i j => .int (i - j)) (tVar 2) (tC (.int 1)))))) (tRaise0 E (.ref (C "NoText"))) tNext)
def t_read_way_r2 (K : PySem.W.Frag) (C : Str → Addr) (E : XK) : TS :=
  (tSeq (tFor (iRng2 (tCons (tC (.int 1)) (tCons (tCB (rLenL K) (tCons (tVar 1) tNil)) tNil))) (gName 2) (t_read_way_b1 K C E))
    (tRet (tVar 1)))
def t_read_way (K : PySem.W.Frag) (C : Str → Addr) (E : XK) : TS :=
  (tSeq (tIfS (tTest (tOp rEq (tVar 0) (tC (.str "0")))) (tRet (tLst tNil)) tNext)
    (tSeq (tAsg (tLc (iList K (tSplit (tVar 0) (tC (.str " + ")))) (gName 3) tYes (tGo (sp_read_number K C) (fun _ => E) (tCons (tVar 3) tNil)) [3]) (gName 1))
    (t_read_way_r2 K C E)))
def t__law_text_e_b1 (K : PySem.W.Frag) (C : Str → Addr) (E : XK) : TS :=
  (tDrop (tBM K "list" rAppend (tVar 1) (tCons (tOp (rI0 fun i j => .int (i + j)) (tC (.int 1)) (tGo (sp__law_take_e K C) (fun _ => E0) (tCons (tVar 0) (tCons (tOp (rIxL K) (tLst (tCons (tC (.int 3)) (tCons (tC (.int 100)) (tCons (tOp (rI CPow fun i j => .int (i ^ j.toNat)) (tC (.int 10)) (tC (.int 9))) tNil)))) (tGo (sp__law_take_e K C) (fun _ => E0) (tCons (tVar 0) (tCons (tC (.int 3)) tNil)))) tNil)))) tNil)))
def t__law_text_e_r2 (K : PySem.W.Frag) (C : Str → Addr) (E : XK) : TS :=
  (tRet (tIf (tTest (tOp (rEqNil K false) (tVar 1) (tLst tNil))) (tC (.str "0")) (tJoin K (tC (.str " + ")) (tLc (iList K (tRevL K (tCB (rSortedI K) (tCons (tVar 1) tNil)))) (gName 3) tYes (tCB rStrI (tCons (tVar 3) tNil)) [3]))))
def t__law_text_e (K : PySem.W.Frag) (C : Str → Addr) (E : XK) : TS :=
  (tSeq (tAsg (tLst tNil) (gName 1))
    (tSeq (tFor (iRng1 (tCons (tGo (sp__law_take_e K C) (fun _ => E0) (tCons (tVar 0) (tCons (tOp (rIxL K) (tLst (tCons (tC (.int 6)) (tCons (tC (.int 100)) tNil))) (tCB rInt1 (tCons (tOp rEq (tGo (sp__law_take_e K C) (fun _ => E0) (tCons (tVar 0) (tCons (tC (.int 6)) tNil))) (tC (.int 0))) tNil))) tNil))) tNil)) (gName 2) (t__law_text_e_b1 K C E))
    (t__law_text_e_r2 K C E)))
def t__law_bad_e (K : PySem.W.Frag) (C : Str → Addr) (E : XK) : TS :=
  (tSeq (tAsg (tLst (tCons (tC (.str "")) (tCons (tC (.str "0")) (tCons (tC (.str "00")) (tCons (tC (.str "01")) (tCons (tC (.str "-1")) (tCons (tC (.str "+1")) (tCons (tC (.str "1.0")) (tCons (tC (.str "1_0")) (tCons (tC (.str "x")) (tCons (tC (.str "0x1")) (tCons (tC (.str "1-")) (tCons (tC (.str "1e3")) (tCons (tC (.str "+")) (tCons (tC (.str " ")) (tCons (tC (.str "1+1")) tNil)))))))))))))))) (gName 1))
    (tSeq (tAsg (tOp rCat (tVar 1) (tLst (tCons (tOp rMulS (tC (.str "9")) (tC (.int 40))) (tCons (tOp rMulS (tC (.str "9")) (tC (.int 41))) (tCons (tOp rAddS (tC (.str "1")) (tOp rMulS (tC (.str "0")) (tC (.int 39)))) (tCons (tOp rAddS (tC (.str "1")) (tOp rMulS (tC (.str "0")) (tC (.int 40)))) (tCons (tOp rMulS (tC (.str "7")) (tC (.int 900))) (tCons (tC (.str "1,2")) (tCons (tC (.str "1
")) tNil))))))))) (gName 1))
    (tSeq (tAsg (tOp rCat (tVar 1) (tLst (tCons (tC (.str "1 +")) (tCons (tC (.str "+ 1")) tNil)))) (gName 1))
    (tSeq (tAsg (tC (.str "!#$'()*./:;<=>?@BMXY[]^`{|}~abz")) (gName 2))
    (tSeq (tDrop (tBM K "list" rAppend (tVar 1) (tCons (tOp rIxS (tVar 2) (tGo (sp__law_take_e K C) (fun _ => E0) (tCons (tVar 0) (tCons (tCB rLenT (tCons (tVar 2) tNil)) tNil)))) tNil)))
    (tSeq (tDrop (tBM K "list" rAppend (tVar 1) (tCons (tOp rAddS (tC (.str "1")) (tOp rIxS (tVar 2) (tGo (sp__law_take_e K C) (fun _ => E0) (tCons (tVar 0) (tCons (tCB rLenT (tCons (tVar 2) tNil)) tNil))))) tNil)))
    (tRet (tOp (rIxL K) (tVar 1) (tGo (sp__law_take_e K C) (fun _ => E0) (tCons (tVar 0) (tCons (tCB (rLenL K) (tCons (tVar 1) tNil)) tNil)))))))))))
def t__law_spoilt_e (K : PySem.W.Frag) (C : Str → Addr) (E : XK) : TS :=
  (tSeq (tAsg (tGo (sp__law_take_e K C) (fun _ => E0) (tCons (tVar 0) (tCons (tC (.int 6)) tNil))) (gName 2))
    (tSeq (tAsg (tGo (sp__law_take_e K C) (fun _ => E0) (tCons (tVar 0) (tCons (tOp (rI0 fun i j => .int (i + j)) (tCB rLenT (tCons (tVar 1) tNil)) (tC (.int 1))) tNil))) (gName 3))
    (tSeq (tAsg (tOp rIxS (tC (.str " 0129+-a
")) (tGo (sp__law_take_e K C) (fun _ => E0) (tCons (tVar 0) (tCons (tC (.int 9)) tNil)))) (gName 4))
    (tSeq (tIfS (tTest (tOp rEq (tVar 2) (tC (.int 0)))) (tRet (tOp rAddS (tSl rSlS (tVar 1) tNoPart (tPart (tVar 3))) (tSl rSlS (tVar 1) (tPart (tOp (rI0 fun i j => .int (i + j)) (tVar 3) (tC (.int 1)))) tNoPart))) tNext)
    (tSeq (tIfS (tTest (tOp (rI0 fun i j => .bl (decide (i < j))) (tVar 2) (tC (.int 3)))) (tRet (tOp rAddS (tOp rAddS (tSl rSlS (tVar 1) tNoPart (tPart (tVar 3))) (tVar 4)) (tSl rSlS (tVar 1) (tPart (tOp (rI0 fun i j => .int (i - j)) (tOp (rI0 fun i j => .int (i + j)) (tVar 3) (tVar 2)) (tC (.int 1)))) tNoPart))) tNext)
    (tSeq (tAsg (tSplit (tVar 1) (tC (.str " + "))) (gName 5))
    (tSeq (tAsg (tGo (sp__law_take_e K C) (fun _ => E0) (tCons (tVar 0) (tCons (tOp (rI0 fun i j => .int (i + j)) (tCB (rLenL K) (tCons (tVar 5) tNil)) (tC (.int 1))) tNil))) (gName 3))
    (tSeq (tIfS (tTest (tOp rEq (tVar 2) (tC (.int 3)))) (tSeq (tAsg (tOp rCat (tSl (rSlL K) (tVar 5) (tPart (tVar 3)) (tPart (tOp (rI0 fun i j => .int (i + j)) (tVar 3) (tC (.int 1))))) (tSl (rSlL K) (tVar 5) (tPart (tOp (rI0 fun i j => .int (i + j)) (tVar 3) (tC (.int 2)))) tNoPart)) (gName 6))
    (tRet (tJoin K (tC (.str " + ")) (tOp rCat (tOp rCat (tSl (rSlL K) (tVar 5) tNoPart (tPart (tVar 3))) (tSl (rSlL K) (tVar 5) (tPart (tOp (rI0 fun i j => .int (i + j)) (tVar 3) (tC (.int 1)))) (tPart (tOp (rI0 fun i j => .int (i + j)) (tVar 3) (tC (.int 2)))))) (tVar 6))))) tNext)
    (tRet (tJoin K (tC (.str " + ")) (tOp rCat (tOp rCat (tSl (rSlL K) (tVar 5) tNoPart (tPart (tVar 3))) (tLst (tCons (tGo (sp__law_bad_e K C) (fun _ => E0) (tCons (tVar 0) tNil)) tNil))) (tSl (rSlL K) (tVar 5) (tPart (tOp (rI0 fun i j => .int (i - j)) (tOp (rI0 fun i j => .int (i + j)) (tVar 3) (tVar 2)) (tC (.int 4)))) tNoPart))))))))))))
def t__law_number_in_e (K : PySem.W.Frag) (C : Str → Addr) (E : XK) : TS :=
  (tSeq (tIfS (tOr (tNot (tTest (tChain (rI0 fun i j => .bl (decide (i ≤ j))) (rI0 fun i j => .bl (decide (i ≤ j))) (tC (.int 1)) (tCB rLenT (tCons (tVar 0) tNil)) (tC (.int 40))))) (tTest (tOp rEq (tOp rIxS (tVar 0) (tC (.int 0))) (tC (.str "0"))))) (tRet (tC .non)) tNext)
    (tRet (tIf (tB (tCB (rAll K) (tCons (tLc (iStr (tVar 0)) (gName 1) tYes (tOp rInS (tVar 1) (tC (.str "0123456789"))) [1]) tNil))) (tCB rIntS (tCons (tVar 0) tNil)) (tC .non))))
def t__law_right_e_r1 (K : PySem.W.Frag) (C : Str → Addr) (E : XK) : TS :=
  (tSeq (tIfS (tOr (tTest (tOp (rIn K false) (tC .non) (tVar 4))) (tTest (tOp (rEqLI K true) (tVar 4) (tRevL K (tCB (rSortedI K) (tCons (tVar 4) tNil)))))) (tRet (tOp (rEqD K) (tVar 2) (tLst (tCons (tC (.bl true)) (tCons (tC (.bl true)) (tCons (tC (.bl false)) tNil)))))) tNext)
    (tRet (tAndV (tOp (rEqNil K false) (tVar 2) (tLst tNil)) (tAndV (tOp rEq (tCB (rRepr K) (tCons (tVar 1) tNil)) (tCB (rRepr K) (tCons (tVar 4) tNil))) (tOp rEq (tGo (sp_show_way_dk K C) (fun _ => E0) (tCons (tVar 4) tNil)) (tVar 0))))))
def t__law_right_e (K : PySem.W.Frag) (C : Str → Addr) (E : XK) : TS :=
  (tSeq (tAsg (tC .non) (gName 1))
    (tSeq (tAsg (tLst tNil) (gName 2))
    (tSeq (tSee K (.ref (C "MirrorError")) 3 (fun W => (tAsg (tGo (sp_read_way K C) (WE W) (tCons (tVar 0) tNil)) (gName 1))) (tSeq (tAsg (tLst (tCons (tCB (rIsX K) (tCons (tVar 3) (tCons (tC (.ref (C "NoText"))) tNil))) (tCons (tCB (rIsX K) (tCons (tVar 3) (tCons (tC (.ty "ValueError")) tNil))) tNil))) (gName 2))
    (tDrop (tBM K "list" rAppend (tVar 2) (tCons (tCB (rIsXT K) (tCons (tVar 3) (tCons (tTup (tCons (tC (.ref (C "NoBase"))) (tCons (tC (.ref (C "NoCommand"))) (tCons (tC (.ref (C "NoMirror"))) (tCons (tC (.ref (C "NoNumber"))) (tCons (tC (.ref (C "NoPlace"))) (tCons (tC (.ref (C "NoWay"))) tNil))))))) tNil))) tNil)))))
    (tSeq (tAsg (tIf (tTest (tOp rEq (tVar 0) (tC (.str "0")))) (tLst tNil) (tLc (iList K (tSplit (tVar 0) (tC (.str " + ")))) (gName 5) tYes (tGo (sp__law_number_in_e K C) (fun _ => E0) (tCons (tVar 5) tNil)) [5])) (gName 4))
    (t__law_right_e_r1 K C E)))))
def t_law_b1 (K : PySem.W.Frag) (C : Str → Addr) (E : XK) : TS :=
  (tSeq (tAsg (tGo (sp__law_deck_e K C) (fun _ => E0) (tCons (tVar 1) (tCons (tC (.int 5)) tNil))) (gName 2))
    (tSeq (tAsg (tGo (sp__law_text_e K C) (fun _ => E0) (tCons (tVar 2) tNil)) (gName 3))
    (tIfS (tOr (tNot (tB (tGo (sp__law_right_e K C) (fun _ => E0) (tCons (tVar 3) tNil)))) (tNot (tB (tGo (sp__law_right_e K C) (fun _ => E0) (tCons (tGo (sp__law_spoilt_e K C) (fun _ => E0) (tCons (tVar 2) (tCons (tVar 3) tNil))) tNil))))) (tRet (tC (.bl false))) tNext)))
def t_law_r2 (K : PySem.W.Frag) (C : Str → Addr) (E : XK) : TS :=
  (tRet (tAndV (tGo (sp__law_right_e K C) (fun _ => E0) (tCons (tOp rAddS (tOp rMulS (tC (.str "1 + ")) (tC (.int 700))) (tC (.str "1"))) tNil)) (tAndV (tGo (sp__law_right_e K C) (fun _ => E0) (tCons (tOp rMulS (tC (.str "7")) (tC (.int 3000))) tNil)) (tGo (sp__law_right_e K C) (fun _ => E0) (tCons (tC (.str "")) tNil)))))
def t_law (K : PySem.W.Frag) (C : Str → Addr) (E : XK) : TS :=
  (tSeq (tFor (iList K (tOp rCat (tSl (rSlL K) (tVar 0) tNoPart (tPart (tC (.int 40)))) (tLst (tCons (tC (.int 0)) (tCons (tC (.int 1)) tNil))))) (gName 1) (t_law_b1 K C E))
    (t_law_r2 K C E))
end Mi

namespace Mi
open PySem PySem.Spec PyProof.Rows L2
local macro_rules
  | `(tactic| walk_at "w") => `(tactic| try simp only [↓v_0, ↓n_0, ↓u_0, ↓v_1, ↓n_1, ↓u_1, ↓v_2, ↓n_2, ↓u_2, ↓v_3, ↓n_3, ↓u_3, ↓v_4, ↓n_4, ↓u_4, ↓v_5, ↓n_5, ↓u_5, ↓v_6, ↓n_6, ↓u_6, ↓v_7, ↓n_7, ↓u_7, ↓v_8, ↓n_8, ↓u_8, ↓v_9, ↓n_9, ↓u_9, ↓v_10, ↓n_10, ↓u_10, ↓v_11, ↓n_11, ↓u_11, ↓v_12, ↓n_12, ↓u_12, ↓v_13, ↓n_13, ↓u_13, ↓v_14, ↓n_14, ↓u_14, ↓v_15, ↓n_15, ↓u_15, ↓v_16, ↓n_16, ↓u_16, ↓v_17, ↓n_17, ↓u_17, ↓v_18, ↓n_18, ↓u_18, ↓v_19, ↓n_19, ↓u_19, ↓a_go, ↓g_int, ↓g_bl, ↓g_ref, ↓g_str, ↓g_rI, ↓g_rI0, ↓g_rU, ↓g_ipI, ↓g_cat, ↓g_ixL, ↓g_ixT, ↓g_slL, ↓g_append, ↓a_excV, ↓a_dispC, ↓a_dispV, ↓a_seq, ↓a_next, ↓a_tru, tru_bl, ↓b_isB, ↓b_notB, b_mulS, b_addS, b_intS, ↓b_lstRg, ↓b_rg1, ↓b_rg2, ↓a_to, b_geLI, b_dictP, ↓a_dIn, ↓a_dNotIn, b_popAt, b_abs, ↓a_glst, a_sortSet, ↓a_dput, ↓a_dnewK, ↓a_dnewT, b_sortI, ↓a_iR3, b_reprV, b_countD, ↓isi_ii, ↓isi_ib, ↓isi_bi, ↓isi_bb, ↓a_asg, ↓a_c, ↓a_op, ↓a_un, ↓a_ret, ↓a_retN, ↓a_ifS, ↓a_drop, ↓a_test, ↓a_B, ↓a_and, ↓a_or, ↓a_not, ↓a_andV, ↓a_orV, ↓a_notV, ↓a_ifE, ↓a_nil, ↓a_cons, ↓a_lst, ↓a_tup, ↓a_cb, ↓a_bm, ↓a_bm0, ↓a_sl, ↓a_po, ↓a_pn, ↓a_gsub, ↓a_gnil, ↓a_gcons, ↓a_gtup, ↓a_chain, ↓a_eq, ↓a_ne, ↓a_yes, ↓a_revL, a_slL, a_ixL, a_ixT, a_append, a_setL, a_cat, ↓a_for, ↓a_lc, ↓a_iL, ↓a_iT, ↓a_iR1, ↓a_iR2, ↓a_iE, ↓a_iZ, ↓a_iS, b_lenL, b_int1b, b_int1i, b_listOf, b_max2, b_min2, b_sum, b_rep, b_eqLI0, b_eqLI1, ↓b_isN, ↓b_notN, ↓b_listEnum, ↓b_raise0, List.getElem?_cons_zero, List.getElem?_cons_succ, List.set_cons_zero, List.set_cons_succ, Option.some.injEq, V.int.injEq, V.ref.injEq, V.bl.injEq, V.str.injEq, List.cons.injEq, and_true, true_and, exists_eq_left', exists_eq_left, exists_eq_right, exists_eq_right', exists_and_left, exists_eq', exists_eq, decide_eq_true_eq, scal_ii, scal_bb, scal_ss, wipe, ↓reduceIte, reduceCtorEq, Bool.not_eq_true', Bool.false_eq_true, not_false_eq_true, not_true_eq_false, if_true, if_false, decide_eq_false_iff_not, List.length_cons, List.length_nil, Nat.zero_add, CDiv, CMul, CPow])
local macro_rules
  | `(tactic| walk_at "z") => `(tactic| first | omega | (rw [sizeLine_eq]; simp only [List.length_append, List.length_map, List.length_cons, List.length_nil, List.length_reverse, nints]; omega) | decide | (simp only [List.length_append, List.length_map, List.length_cons, List.length_nil]; omega))
section
variable {K : PySem.W.Frag} {C : Str → Addr} {H B : Hp} {Q : VK} {E : XK} {F : List (Addr × HO)} {vs : List V}
theorem hand_mix_c (c : Int) (k : Nat) : ∃ m : Nat, m < 2147483563 ∧ (c % 2147483563 + 6271 * (k : Int) + 3) * 40014 % 2147483563 = (m : Int) := by
  have h0 : 0 ≤ (c % 2147483563 + 6271 * (k : Int) + 3) * 40014 % 2147483563 := Int.emod_nonneg _ (by decide)
  have h1 : (c % 2147483563 + 6271 * (k : Int) + 3) * 40014 % 2147483563 < 2147483563 := Int.emod_lt_of_pos _ (by decide)
  generalize (c % 2147483563 + 6271 * (k : Int) + 3) * 40014 % 2147483563 = z at h0 h1
  obtain ⟨m, rfl⟩ := Int.eq_ofNat_of_zero_le h0
  exact ⟨m, by omega, rfl⟩
theorem rd__law_hand_c (h : sp__law_hand_c K C vs H Q E) : t__law_hand_c K C E (fin Q) (start ["cell", "k", "digits"] vs) H := by
  obtain ⟨c, k, rfl, hk, q⟩ := h
  show t__law_hand_c K C E (fin Q) [some (.int c), some (.int k), none] H
  unfold t__law_hand_c
  walk_at "w"
  refine ⟨by decide, ?_⟩
  obtain ⟨m, hm, e⟩ := hand_mix_c c k
  have hsl := sizeLine_eq
  by_cases hc : (10 : Int) ^ (18 : Int).toNat ≤ c
  · rw [if_pos hc]
    have h18 : (0 : Int) ≤ (10 : Int) ^ (18 : Int).toNat := by decide
    obtain ⟨d, rfl⟩ := Int.eq_ofNat_of_zero_le (Int.le_trans h18 hc)
    refine ⟨by decide, .inl (by decide), .inr (by decide), by decide, by omega, ?_⟩
    rw [e]
    exact fun p hp => q _ _ d m hm ((Led.refl H).new hp)
  · rw [if_neg hc]
    refine ⟨by decide, .inl (by decide), .inr (by decide), by decide, by omega, ?_⟩
    rw [e]
    exact fun p hp => q _ _ 0 m hm ((Led.refl H).new hp)
theorem rd__law_draw_c (h : sp__law_draw_c K C vs H Q E) : t__law_draw_c K C E (fin Q) (start ["hand", "limit", "got"] vs) H := by
  obtain ⟨a, d, m, l, rfl, ha, hm, hl, hl2, q⟩ := h
  show t__law_draw_c K C E (fin Q) [some (.ref a), some (.int l), none] H
  unfold t__law_draw_c
  have L := Led.own1 ha
  have g0 : atI [V.int d, V.int m] 0 = some (.int d) := rfl
  have g1 : atI [V.int d, V.int m] 1 = some (.int m) := rfl
  walk_at "w"
  unfold hdO at L q
  refine ⟨_, L.sqI 0 rfl, _, g0, ?_⟩
  walk_at "w"
  by_cases hd : (0 : Int) < d
  · rw [if_pos hd]
    refine ⟨_, L.sqI 0 rfl, _, g0, ?_⟩
    walk_at "w"
    refine ⟨by omega, _, L.sqI 0 rfl, _, g0, ?_⟩
    walk_at "w"
    refine ⟨⟨by omega, by omega⟩, _, L.get 0 rfl, 0, rfl, ?_⟩
    exact q _ (d / l) m (d % l) hm (Nat.mod_lt _ hl) (L.put 0 rfl)
  · rw [if_neg hd]
    have e : ∃ z : Nat, z < 2147483563 ∧ ((m : Int) * m + 52774 * m + 40692) % 2147483563 = z :=
      ⟨(m * m + 52774 * m + 40692) % 2147483563, Nat.mod_lt _ (by decide), by simp⟩
    obtain ⟨z, hz, e⟩ := e
    refine ⟨_, L.sqI 0 rfl, _, g1, _, L.sqI 0 rfl, _, g1, ?_⟩
    walk_at "w"
    refine ⟨.inl (by omega), _, L.sqI 0 rfl, _, g1, ?_⟩
    walk_at "w"
    refine ⟨.inl (by decide), by decide, _, L.get 0 rfl, 1, rfl, ?_⟩
    rw [e]
    generalize eP : upd _ _ _ = H2
    have L2 : Led (rmv H a) [(a, .lst [.int d, .int z])] H2 := L.put' 0 rfl eP
    clear eP
    refine ⟨_, L2.sqI 0 rfl, _, rfl, ?_⟩
    walk_at "w"
    refine ⟨by decide, by omega, ?_⟩
    exact q _ d z (z / 16 % l) hz (Nat.mod_lt _ hl) L2
theorem rd__law_cells_c (h : sp__law_cells_c K C vs H Q E) : t__law_cells_c K C E (fin Q) (start ["script", "many"] vs) H := rd__law_cells h
theorem use_draw_c {a : Addr} {d m l : Nat} (L : Led B F H) (i : Nat) (hF : F[i]? = some (a, hdO d m)) (hm : m < 2147483563) (hl : 0 < l) (hl2 : l < 1073741824)
    (q : ∀ H' (d' m' g : Nat), m' < 2147483563 → g < l → Led B (F.set i (a, hdO d' m')) H' → Q (.int g) H') : sp__law_draw_c K C [.ref a, .int l] H Q E :=
  ⟨a, d, m, l, rfl, L.get i hF, hm, hl, hl2, fun H' d' m' g hm' hg M => q H' d' m' g hm' hg (L.stepOwn (G := []) i hF M)⟩
theorem use_hand_c {c : Int} {k : Nat} (L : Led B F H) (hk : k ≤ 1000) (q : ∀ p H' (d m : Nat), m < 2147483563 → Led B ((p, hdO d m) :: F) H' → Q (.ref p) H') : sp__law_hand_c K C [.int c, .int k] H Q E :=
  ⟨c, k, rfl, hk, fun p H' d m hm M => q p H' d m hm (L.step M)⟩
end
end Mi

namespace Mi
open PySem PySem.Spec PyProof.Rows L2
local macro_rules
  | `(tactic| walk_at "w") => `(tactic| try simp only [↓v_0, ↓n_0, ↓u_0, ↓v_1, ↓n_1, ↓u_1, ↓v_2, ↓n_2, ↓u_2, ↓v_3, ↓n_3, ↓u_3, ↓v_4, ↓n_4, ↓u_4, ↓v_5, ↓n_5, ↓u_5, ↓v_6, ↓n_6, ↓u_6, ↓v_7, ↓n_7, ↓u_7, ↓v_8, ↓n_8, ↓u_8, ↓v_9, ↓n_9, ↓u_9, ↓v_10, ↓n_10, ↓u_10, ↓v_11, ↓n_11, ↓u_11, ↓v_12, ↓n_12, ↓u_12, ↓v_13, ↓n_13, ↓u_13, ↓v_14, ↓n_14, ↓u_14, ↓v_15, ↓n_15, ↓u_15, ↓v_16, ↓n_16, ↓u_16, ↓v_17, ↓n_17, ↓u_17, ↓v_18, ↓n_18, ↓u_18, ↓v_19, ↓n_19, ↓u_19, ↓a_go, ↓g_int, ↓g_bl, ↓g_ref, ↓g_str, ↓g_rI, ↓g_rI0, ↓g_rU, ↓g_ipI, ↓g_cat, ↓g_ixL, ↓g_ixT, ↓g_slL, ↓g_append, ↓a_excV, ↓a_dispC, ↓a_dispV, ↓a_seq, ↓a_next, ↓a_tru, tru_bl, ↓b_isB, ↓b_notB, b_mulS, b_addS, b_intS, ↓b_lstRg, ↓b_rg1, ↓b_rg2, ↓a_to, b_geLI, b_dictP, ↓a_dIn, ↓a_dNotIn, b_popAt, b_abs, ↓a_glst, a_sortSet, ↓a_dput, ↓a_dnewK, ↓a_dnewT, b_sortI, ↓a_iR3, b_reprV, b_countD, ↓isi_ii, ↓isi_ib, ↓isi_bi, ↓isi_bb, ↓a_asg, ↓a_c, ↓a_op, ↓a_un, ↓a_ret, ↓a_retN, ↓a_ifS, ↓a_drop, ↓a_test, ↓a_B, ↓a_and, ↓a_or, ↓a_not, ↓a_andV, ↓a_orV, ↓a_notV, ↓a_ifE, ↓a_nil, ↓a_cons, ↓a_lst, ↓a_tup, ↓a_cb, ↓a_bm, ↓a_bm0, ↓a_sl, ↓a_po, ↓a_pn, ↓a_gsub, ↓a_gnil, ↓a_gcons, ↓a_gtup, ↓a_chain, ↓a_eq, ↓a_ne, ↓a_yes, ↓a_revL, a_slL, a_ixL, a_ixT, a_append, a_setL, a_cat, ↓a_for, ↓a_lc, ↓a_iL, ↓a_iT, ↓a_iR1, ↓a_iR2, ↓a_iE, ↓a_iZ, ↓a_iS, b_lenL, b_int1b, b_int1i, b_listOf, b_max2, b_min2, b_sum, b_rep, b_eqLI0, b_eqLI1, ↓b_isN, ↓b_notN, ↓b_listEnum, ↓b_raise0, List.getElem?_cons_zero, List.getElem?_cons_succ, List.set_cons_zero, List.set_cons_succ, Option.some.injEq, V.int.injEq, V.ref.injEq, V.bl.injEq, V.str.injEq, List.cons.injEq, and_true, true_and, exists_eq_left', exists_eq_left, exists_eq_right, exists_eq_right', exists_and_left, exists_eq', exists_eq, decide_eq_true_eq, scal_ii, scal_bb, scal_ss, wipe, ↓reduceIte, reduceCtorEq, Bool.not_eq_true', Bool.false_eq_true, not_false_eq_true, not_true_eq_false, if_true, if_false, decide_eq_false_iff_not, List.length_cons, List.length_nil, Nat.zero_add, CDiv, CMul, CPow])
local macro_rules
  | `(tactic| walk_at "z") => `(tactic| first | omega | (rw [sizeLine_eq]; simp only [List.length_append, List.length_map, List.length_cons, List.length_nil, List.length_reverse, nints]; omega) | decide | (simp only [List.length_append, List.length_map, List.length_cons, List.length_nil]; omega))
section
variable {K : PySem.W.Frag} {C : Str → Addr} {H B : Hp} {Q : VK} {E : XK} {F : List (Addr × HO)} {vs : List V}
theorem rd__law_base_c (h : sp__law_base_c K C vs H Q E) : t__law_base_c K C E (fin Q) (start ["hand", "way"] vs) H := by
  obtain ⟨a, d, m, rfl, ha, hm, q⟩ := h
  show t__law_base_c K C E (fin Q) [some (.ref a), none] H
  unfold t__law_base_c
  have hsl := sizeLine_eq
  have L0 := Led.own1 ha
  walk_at "w"
  refine use_draw_c (l := 36) L0 0 rfl hm (by decide) (by decide) fun H1 d1 m1 g hm1 hg L1 => ?_
  walk_at "w"
  refine ⟨by omega, fun p k1 => ?_⟩
  (generalize eNW : upd _ _ _ = H2; have L2 := Led.new' L1 k1 eNW; clear eNW)
  refine ⟨_, L2.sqI 0 rfl, ?_⟩
  by_cases c : (g : Int) = 35
  · rw [if_pos c]
    exact ⟨.int (10 : Nat), rfl, q _ d1 m1 10 hm1 (by decide) (by decide) L2.tail⟩
  · rw [if_neg c]
    refine ⟨.int ((2 + g : Nat) : Int), ?_, q _ d1 m1 (2 + g) hm1 (by omega) (by omega) L2.tail⟩
    rw [show ((2 + g : Nat) : Int) = 2 + (g : Nat) by omega]
    rfl
theorem use_base_c {a : Addr} {d m : Nat} (L : Led B F H) (i : Nat) (hF : F[i]? = some (a, hdO d m)) (hm : m < 2147483563)
    (q : ∀ H' (d' m' b : Nat), m' < 2147483563 → 2 ≤ b → b ≤ 36 → Led B (F.set i (a, hdO d' m')) H' → Q (.int b) H') : sp__law_base_c K C [.ref a] H Q E :=
  ⟨a, d, m, rfl, L.get i hF, hm, fun H' d' m' b hm' hb hb2 M => q H' d' m' b hm' hb hb2 (L.stepOwn (G := []) i hF M)⟩
theorem rd__law_great_c (h : sp__law_great_c K C vs H Q E) : t__law_great_c K C E (fin Q) (start ["hand", "k", "few", "most"] vs) H := by
  obtain ⟨a, d, m, k, few, most, rfl, ha, hm, q⟩ := h
  show t__law_great_c K C E (fin Q) [some (.ref a), some (.int k), some (.int few), some (.int most)] H
  unfold t__law_great_c
  have hsl := sizeLine_eq
  have L0 := Led.own1 ha
  walk_at "w"
  refine ⟨by omega, fun p k1 => ?_⟩
  (generalize eNW : upd _ _ _ = H1; have L1 := Led.new' L0 k1 eNW; clear eNW)
  by_cases c : (k : Int) = 0
  · rw [if_pos c]
    refine use_draw_c (l := 8) L1 1 rfl hm (by decide) (by decide) fun H2 d2 m2 g hm2 hg L2 => ⟨rfl, _, L2.sqI 0 rfl, ?_⟩
    by_cases c2 : V.int (g : Nat) = .int 1
    · rw [if_pos c2]
      exact ⟨_, rfl, q _ d2 m2 most hm2 (.inr rfl) L2.tail⟩
    · rw [if_neg c2]
      exact ⟨_, rfl, q _ d2 m2 few hm2 (.inl rfl) L2.tail⟩
  · rw [if_neg c]
    exact ⟨_, L1.sqI 0 rfl, _, rfl, q _ d m few hm (.inl rfl) L1.tail⟩
theorem use_great_c {a : Addr} {d m k few most : Nat} (L : Led B F H) (i : Nat) (hF : F[i]? = some (a, hdO d m)) (hm : m < 2147483563)
    (q : ∀ H' (d' m' g : Nat), m' < 2147483563 → (g = few ∨ g = most) → Led B (F.set i (a, hdO d' m')) H' → Q (.int g) H') : sp__law_great_c K C [.ref a, .int k, .int few, .int most] H Q E :=
  ⟨a, d, m, k, few, most, rfl, L.get i hF, hm, fun H' d' m' g hm' hg M => q H' d' m' g hm' hg (L.stepOwn (G := []) i hF M)⟩
theorem rd__law_number_c (h : sp__law_number_c K C vs H Q E) : t__law_number_c K C E (fin Q) (start ["hand", "base", "most", "way", "power", "turn", "some"] vs) H := by
  obtain ⟨a, d, m, b, most, rfl, ha, hm, hb, hb2, hm40, hmo, q⟩ := h
  show t__law_number_c K C E (fin Q) [some (.ref a), some (.int b), some (.int most), none, none, none, none] H
  unfold t__law_number_c
  have hsl := sizeLine_eq
  have L0 := Led.own1 ha
  walk_at "w"
  refine use_draw_c (l := 7) L0 0 rfl hm (by decide) (by decide) fun H1 d1 m1 w hm1 hw L1 => ?_
  walk_at "w"
  by_cases c : (w : Int) < 3
  · rw [if_pos c]
    refine ⟨by omega, fun p k1 => ?_⟩
    (generalize eNW : upd _ _ _ = H2; have L2 := Led.new' L1 k1 eNW; clear eNW)
    obtain ⟨l, hl, hl0, hl1, hl2⟩ : ∃ l : Nat, atI [V.int 41, V.int ((most : Int) + 1), V.int ((most : Int) + 1)] (w : Nat) = some (.int (l : Nat)) ∧ 0 < l ∧ l < 1073741824 ∧ (l = 41 ∨ l = most + 1) := by
      have e : ((most : Int) + 1) = ((most + 1 : Nat) : Int) := rfl
      have : w = 0 ∨ w = 1 ∨ w = 2 := by omega
      rcases this with rfl | rfl | rfl
      · exact ⟨41, rfl, by decide, by decide, .inl rfl⟩
      · exact ⟨most + 1, rfl, by omega, by omega, .inr rfl⟩
      · exact ⟨most + 1, rfl, by omega, by omega, .inr rfl⟩
    refine ⟨_, L2.sqI 0 rfl, _, hl, use_draw_c L2 1 rfl hm1 hl0 hl1 fun H3 d3 m3 g hm3 hg L3 => ?_⟩
    exact q _ d3 m3 g hm3 (by omega) L3.tail
  rw [if_neg c]
  refine use_draw_c (l := 20) L1 0 rfl hm1 (by decide) (by decide) fun H2 d2 m2 t hm2 ht L2 => ?_
  walk_at "w"
  refine ⟨by omega, by omega, ?_⟩
  rw [Int.toNat_natCast]
  refine for_r (fun i σ H' => ∃ (pw : Nat) (y5 : Option V), 1 ≤ pw ∧ pw ≤ most + 1 ∧ Led (rmv H a) [(a, hdO d2 m2)] H' ∧ σ = [some (.ref a), some (.int b), some (.int most), some (.int w), some (.int (pw : Nat)), y5, none]) ⟨1, _, by decide, by omega, L2, rfl⟩ ?_ ?_
  · rintro N hN i σ H3 hi ⟨pw, y5, h1, h2, L3, rfl⟩
    show t__law_number_c_b1 K C E _ _ _
    unfold t__law_number_c_b1
    walk_at "w"
    refine ⟨.inl (by omega), ?_⟩
    rw [show (pw : Int) * (b : Nat) = ((pw * b : Nat) : Int) from (Int.natCast_mul ..).symm]
    by_cases c2 : pw * b ≤ most
    · rw [if_pos (by omega)]
      refine ⟨.inl (by omega), hN _ _ _ ⟨pw * b, _, Nat.mul_pos h1 (by omega), by omega, L3, rfl⟩⟩
    · rw [if_neg (by omega)]
      exact hN _ _ _ ⟨pw, _, h1, h2, L3, rfl⟩
  rintro σ H3 ⟨pw, y5, h1, h2, L3, rfl⟩
  show t__law_number_c_r2 K C E _ _ _
  unfold t__law_number_c_r2
  walk_at "w"
  by_cases c6 : (w : Int) = 6
  · rw [if_pos c6]
    exact q _ d2 m2 most hm2 (Nat.le_refl _) L3
  rw [if_neg c6]
  refine use_draw_c L3 0 rfl hm2 (by omega) (by omega) fun H4 d4 m4 g4 hm4 hg4 L4 => ?_
  walk_at "w"
  refine ⟨.inr (by omega), by decide, by omega, fun p k1 => ?_⟩
  (generalize eNW : upd _ _ _ = H5; have L5 := Led.new' L4 k1 eNW; clear eNW)
  obtain ⟨v, hv⟩ : ∃ v : Int, atI [V.int (pw : Nat), V.int ((pw : Int) * (1 + (g4 : Nat))), V.int ((pw : Int) + (pw : Nat) / 2)] ((w : Int) - 3) = some (.int v) := by
    have : w = 3 ∨ w = 4 ∨ w = 5 := by omega
    rcases this with rfl | rfl | rfl
    · exact ⟨_, rfl⟩
    · exact ⟨_, rfl⟩
    · exact ⟨_, rfl⟩
  refine ⟨_, L5.sqI 0 rfl, _, hv, use_draw_c (l := 5) L5 1 rfl hm4 (by decide) (by decide) fun H6 d6 m6 g6 hm6 hg6 L6 => ?_⟩
  walk_at "w"
  obtain ⟨z, hz, hz2⟩ : ∃ z : Nat, (if (if v + (g6 : Nat) - 2 < (most : Nat) then v + (g6 : Nat) - 2 else (most : Nat)) > 0 then (if v + (g6 : Nat) - 2 < (most : Nat) then v + (g6 : Nat) - 2 else (most : Nat)) else (0 : Int)) = (z : Nat) ∧ z ≤ most := by
    by_cases c7 : v + (g6 : Nat) - 2 < (most : Nat)
    · rw [if_pos c7]
      by_cases c8 : v + (g6 : Nat) - 2 > 0
      · rw [if_pos c8]
        exact ⟨(v + (g6 : Nat) - 2).toNat, by omega, by omega⟩
      · rw [if_neg c8]
        exact ⟨0, rfl, Nat.zero_le _⟩
    · rw [if_neg c7]
      by_cases c8 : ((most : Nat) : Int) > 0
      · rw [if_pos c8]
        exact ⟨most, rfl, Nat.le_refl _⟩
      · rw [if_neg c8]
        exact ⟨0, rfl, Nat.zero_le _⟩
  rw [hz]
  exact q _ d6 m6 z hm6 hz2 L6.tail
theorem use_number_c {a : Addr} {d m b most : Nat} (L : Led B F H) (i : Nat) (hF : F[i]? = some (a, hdO d m)) (hm : m < 2147483563) (hb : 2 ≤ b) (hb2 : b ≤ 36) (hm40 : 40 ≤ most) (hmo : most ≤ 1000000)
    (q : ∀ H' (d' m' g : Nat), m' < 2147483563 → g ≤ most → Led B (F.set i (a, hdO d' m')) H' → Q (.int g) H') : sp__law_number_c K C [.ref a, .int b, .int most] H Q E :=
  ⟨a, d, m, b, most, rfl, L.get i hF, hm, hb, hb2, hm40, hmo, fun H' d' m' g hm' hg M => q H' d' m' g hm' hg (L.stepOwn (G := []) i hF M)⟩
end
end Mi

namespace Mi
open PySem PySem.Spec PyProof.Rows L2
local macro_rules
  | `(tactic| walk_at "w") => `(tactic| try simp only [↓a_par, ↓a_fdG, ↓a_meG, ↓a_mkG, ↓a_sfdG, ↓a_tupG, ↓a_upper, ↓a_split, ↓a_join, ↓b_split, ↓b_join, ↓b_ixS, ↓b_notInS, ↓a_augS, ↓a_dget, ↓v_0, ↓n_0, ↓u_0, ↓v_1, ↓n_1, ↓u_1, ↓v_2, ↓n_2, ↓u_2, ↓v_3, ↓n_3, ↓u_3, ↓v_4, ↓n_4, ↓u_4, ↓v_5, ↓n_5, ↓u_5, ↓v_6, ↓n_6, ↓u_6, ↓v_7, ↓n_7, ↓u_7, ↓v_8, ↓n_8, ↓u_8, ↓v_9, ↓n_9, ↓u_9, ↓v_10, ↓n_10, ↓u_10, ↓v_11, ↓n_11, ↓u_11, ↓v_12, ↓n_12, ↓u_12, ↓v_13, ↓n_13, ↓u_13, ↓v_14, ↓n_14, ↓u_14, ↓v_15, ↓n_15, ↓u_15, ↓v_16, ↓n_16, ↓u_16, ↓v_17, ↓n_17, ↓u_17, ↓v_18, ↓n_18, ↓u_18, ↓v_19, ↓n_19, ↓u_19, ↓a_go, ↓g_int, ↓g_bl, ↓g_ref, ↓g_str, ↓g_rI, ↓g_rI0, ↓g_rU, ↓g_ipI, ↓g_cat, ↓g_ixL, ↓g_ixT, ↓g_slL, ↓g_append, ↓a_excV, ↓a_dispC, ↓a_dispV, ↓a_seq, ↓a_next, ↓a_tru, tru_bl, ↓b_isB, ↓b_notB, b_mulS, b_addS, b_intS, ↓b_lstRg, ↓b_rg1, ↓b_rg2, ↓a_to, b_geLI, b_gtLI, b_dictP, ↓a_dIn, ↓a_dNotIn, b_popAt, b_abs, ↓a_glst, a_sortSet, ↓a_dput, ↓a_dnewK, ↓a_dnewT, b_sortI, ↓a_iR3, b_reprV, b_countD, a_sortSetN, ↓isi_ii, ↓isi_ib, ↓isi_bi, ↓isi_bb, ↓a_asg, ↓a_c, ↓a_op, ↓a_un, ↓a_ret, ↓a_retN, ↓a_ifS, ↓a_drop, ↓a_test, ↓a_B, ↓a_and, ↓a_or, ↓a_not, ↓a_andV, ↓a_orV, ↓a_notV, ↓a_ifE, ↓a_nil, ↓a_cons, ↓a_lst, ↓a_tup, ↓a_cb, ↓a_bm, ↓a_bm0, ↓a_sl, ↓a_po, ↓a_pn, ↓a_gsub, ↓a_gnil, ↓a_gcons, ↓a_gtup, ↓a_chain, ↓a_eq, ↓a_ne, ↓a_yes, ↓a_revL, a_slL, a_ixL, a_ixT, a_append, a_setL, a_cat, ↓a_for, ↓a_lc, ↓a_iL, ↓a_iT, ↓a_iR1, ↓a_iR2, ↓a_iE, ↓a_iZ, ↓a_iS, b_lenL, b_int1b, b_int1i, b_listOf, b_max2, b_min2, b_sum, b_rep, b_eqLI0, b_eqLI1, ↓b_isN, ↓b_notN, ↓b_listEnum, ↓b_raise0, List.getElem?_cons_zero, List.getElem?_cons_succ, List.set_cons_zero, List.set_cons_succ, Option.some.injEq, V.int.injEq, V.ref.injEq, V.bl.injEq, V.str.injEq, List.cons.injEq, and_true, true_and, exists_eq_left', exists_eq_left, exists_eq_right, exists_eq_right', exists_and_left, exists_eq', exists_eq, decide_eq_true_eq, scal_ii, scal_bb, scal_ss, wipe, ↓reduceIte, reduceCtorEq, Bool.not_eq_true', Bool.false_eq_true, not_false_eq_true, not_true_eq_false, if_true, if_false, decide_eq_false_iff_not, List.length_cons, List.length_nil, Nat.zero_add, CDiv, CMul, CPow])
local macro_rules
  | `(tactic| walk_at "z") => `(tactic| first | omega | (rw [sizeLine_eq]; simp only [↓a_augS, ↓a_dget, List.length_append, List.length_map, List.length_cons, List.length_nil, List.length_reverse, nints]; omega) | decide | (simp only [List.length_append, List.length_map, List.length_cons, List.length_nil]; omega))
section
variable {K : PySem.W.Frag} {C : Str → Addr} {H B : Hp} {Q : VK} {E : XK} {F : List (Addr × HO)} {vs : List V}
theorem use_numin {z : Str} {most : Nat} (L : Led B F H) (hz : z.length ≤ 100000) (q : ∀ n H', NumIs z most n → Led B F H' → Q (.int (n : Nat)) H') (qE : (∀ n, ¬ NumIs z most n) → ∀ H', Led B F H' → E (.ref (C "NoCommand")) none H') :
    sp_number_in K C [.str z, .int (most : Nat)] H Q E := ⟨z, most, rfl, hz, fun n h H' M => q n H' h (L.step0 M), fun h H' M => qE h H' (L.step0 M)⟩
theorem use_show {a : Addr} {l : List Nat} (L : Led B F H) (hS : SqL K H a (nints l)) (hl : l.length ≤ 1000) (hd : ∀ d ∈ l, d ≤ 10 ^ 40) (q : ∀ H', Led B F H' → Q (.str (wT l)) H') : sp_show_way_dk K C [.ref a] H Q E :=
  ⟨a, l, rfl, hS, hl, hd, fun H' M => q H' (L.step0 M)⟩
theorem rd_Desk_of_a_number (h : sp_Desk_of_a_number K C vs H Q E) : t_Desk_of_a_number K C E (fin Q) (start ["self", "head", "word", "number", "figure"] vs) H := by
  obtain ⟨p, dx, b, h, w, rfl, hp, hb, hb2, hh, hw, q, qE, qB⟩ := h
  show t_Desk_of_a_number K C E (fin Q) [some (.ref p), some (.str h), some (.str w), none, none] H
  unfold t_Desk_of_a_number
  have hsl := sizeLine_eq
  have L0 := Led.refl H
  have hlk : List.lookup (Str.ofString "base") [(("base" : Str), V.int (b : Nat))] = some (V.int (b : Nat)) := rfl
  have fits : ∀ m : Nat, m < 2 ^ 1000 → ((m : Nat) : Int).natAbs.log2 < 1920 := fun m hm => Nat.lt_of_le_of_lt (log_dTk hm) (by decide)
  have bad : ∀ {k : Nat}, mostH h = k → (∀ n, ¬ NumIs w k n) → ∀ H', Led H [] H' → E (.ref (C "NoCommand")) none H' := fun e k H' L' => qE _ H' (.inl ⟨by rw [e]; exact k, rfl⟩) L'
  have good : ∀ {n : Nat} {t : Str}, NumIs w (mostH h) n → h ≠ "base" → ¬ (h = "place" ∧ mir b n = false) → AnsT b h n t → ∀ H', Led H [] H' → Q (.str t) H' := fun {n t} h1 h2 h3 h4 H' L' =>
    q _ H' (.inr ⟨n, h1, by rw [if_neg h2, if_neg h3]; exact ⟨t, h4, rfl⟩⟩) L'
  walk_at "w"
  by_cases c1 : h = Str.ofString "at"
  · rw [if_pos c1]
    have em : mostH h = 10 ^ 20 := by unfold mostH; rw [if_pos c1]
    refine use_numin (most := 10 ^ 20) L0 hw (fun n H1 hn L1 => ?_) (bad em)
    refine ⟨dx, _, L1.base _ _ hp, _, hlk, ?_⟩
    refine use_at L1 hb hb2 (Nat.lt_of_le_of_lt hn.2.2 (by decide +kernel)) fun H2 r h1 h2 h3 L2 => ?_
    refine ⟨_, rfl, fits _ (Nat.lt_of_le_of_lt h3 (Nat.lt_of_le_of_lt (Nat.mul_le_mul (Nat.mul_le_mul_left 50000 (Nat.succ_le_succ hn.2.2)) (Nat.succ_le_succ hn.2.2)) (by decide +kernel))), ?_⟩
    refine good (n := n) (t := dT r) (by rw [em]; exact hn) (by rw [c1]; decide) (fun z => absurd (c1.symm.trans z.1) (by decide)) ?_ H2 L2
    unfold AnsT
    rw [if_pos c1]
    exact ⟨r, h1, h2, rfl⟩
  rw [if_neg c1]
  by_cases c2 : h = Str.ofString "two"
  · rw [if_pos c2]
    have em : mostH h = 10 ^ 6 := by unfold mostH; rw [if_neg c1, if_pos c2]
    refine use_numin (most := 10 ^ 6) L0 hw (fun n H1 hn L1 => ?_) (bad em)
    refine ⟨dx, _, L1.base _ _ hp, _, hlk, ?_⟩
    refine use_many2 L1 hb hb2 (Nat.le_trans hn.2.2 (by decide)) fun H2 L2 => ?_
    refine ⟨_, rfl, fits _ ?_, ?_⟩
    · refine Nat.lt_of_le_of_lt (List.length_filter_le _ _) ?_
      rw [List.length_reverse, List.length_range]
      exact Nat.lt_of_le_of_lt hn.2.2 (by decide +kernel)
    refine good (n := n) (t := dT (twos b n).length) (by rw [em]; exact hn) (by rw [c2]; decide) (fun z => absurd (c2.symm.trans z.1) (by decide)) ?_ H2 L2
    unfold AnsT
    rw [if_neg c1, if_pos c2]
  rw [if_neg c2]
  by_cases c3 : h = Str.ofString "fewest"
  · rw [if_pos c3]
    have em : mostH h = 10 ^ 6 := by unfold mostH; rw [if_neg c1, if_neg c2, if_pos c3]
    refine use_numin (most := 10 ^ 6) L0 hw (fun n H1 hn L1 => ?_) (bad em)
    refine ⟨dx, _, L1.base _ _ hp, _, hlk, ?_⟩
    refine ⟨_, _, rfl, NB.good hb hb2 ⟨n, rfl, Nat.le_trans hn.2.2 (by decide), fun q2 l H2 hf K2 => ?_⟩⟩
    have L2 := L1.step K2
    refine use_show L2 (L2.sqI 0 rfl) ?_ (fun d hd => ?_) fun H3 L3 => ?_
    · exact Nat.le_trans (few_len hb hf) (Nat.le_trans (fews_lim hb (Nat.lt_of_le_of_lt hn.2.2 (by decide +kernel))) (by decide))
    · exact Nat.le_trans (hf.1.1.mem d hd).2.2 (Nat.le_trans hn.2.2 (by decide))
    refine good (n := n) (t := wT l) (by rw [em]; exact hn) (by rw [c3]; decide) (fun z => absurd (c3.symm.trans z.1) (by decide)) ?_ H3 L3.none
    unfold AnsT
    rw [if_neg c1, if_neg c2, if_pos c3]
    exact ⟨l, hf, rfl⟩
  rw [if_neg c3]
  have em : mostH h = 10 ^ 40 := by unfold mostH; rw [if_neg c1, if_neg c2, if_neg c3]
  refine use_numin (most := 10 ^ 40) L0 hw (fun n H1 hn L1 => ?_) (bad em)
  walk_at "w"
  have hlim : n < lim := Nat.lt_of_le_of_lt hn.2.2 (by decide +kernel)
  have hl1 : n < lim1 := Nat.lt_of_le_of_lt hn.2.2 (by decide +kernel)
  have hn' : NumIs w (mostH h) n := by rw [em]; exact hn
  have hp1 := L1.base _ _ hp
  by_cases c4 : h = Str.ofString "base"
  · rw [if_pos c4]
    refine ⟨dx, _, hp1, rfl, p, dx, b, n, rfl, hp1, fun c H2 M => ?_, fun c H2 M => ?_⟩
    · refine qB n H2 (.inr ⟨n, hn', by rw [if_pos c4, if_pos c]⟩) ?_
      exact ((Led.own1 hp).step0 L1).stepOwn (G := []) 0 rfl M
    · exact qE _ H2 (.inr ⟨n, hn', by rw [if_pos c4, if_neg c]⟩) (L1.step0 M)
  rw [if_neg c4]
  by_cases c5 : h = Str.ofString "figures"
  · rw [if_pos c5]
    refine ⟨dx, _, hp1, _, hlk, ?_⟩
    refine use_figures L1 hb hb2 hlim fun q2 H2 L2 => ⟨q2, rfl, ⟨_, L2.sqI 0 rfl⟩, fun P1 hP1 => ?_⟩
    have hfl := figs_len_lim hb hlim
    have hfb : ∀ d ∈ figs b n, d ≤ 10 ^ 40 := fun d hd => by
      have := figs_bd hb n d hd
      omega
    refine lc_dT L2 hP1 (fun H L => L.sqI 0 rfl) (by omega) (fun _ => rfl) (fun d H R hd hR => ?_) fun H3 L3 => ?_
    · walk_at "w"
      exact ⟨_, rfl, fits _ (Nat.lt_of_le_of_lt (hfb d hd) (by decide +kernel)), hR⟩
    have hs := sum_dTk (k := 41) fun d h => dT_lenk (hfb d h)
    refine ⟨(figs b n).map dT, .inl (L3.sqI 0 rfl), ?_, ?_⟩
    · rw [List.length_map]
      have : (Str.ofString " ").length = 1 := by decide
      rw [this]
      omega
    refine good hn' (by rw [c5]; decide) (fun z => absurd (c5.symm.trans z.1) (by decide)) ?_ H3 L3.none
    unfold AnsT
    rw [if_neg c1, if_neg c2, if_neg c3, if_pos c5]
  rw [if_neg c5]
  show t_Desk_of_a_number_r1 K C E _ _ _
  unfold t_Desk_of_a_number_r1
  walk_at "w"
  by_cases c6 : h = Str.ofString "is"
  · rw [if_pos c6]
    refine ⟨dx, _, hp1, _, hlk, ?_⟩
    refine use_is L1 hb hb2 hlim fun H2 L2 => ?_
    have fin : ∀ t : Str, (t = if mir b n = true then "yes" else "no") → Q (.str t) H2 := fun t e => by
      refine good hn' (by rw [c6]; decide) (fun z => absurd (c6.symm.trans z.1) (by decide)) ?_ H2 L2.none
      unfold AnsT
      rw [if_neg c1, if_neg c2, if_neg c3, if_neg c5, if_pos c6]
      exact e
    refine ⟨_, rfl, ?_⟩
    cases hm : mir b n with
    | true => exact fin _ (by rw [hm]; rfl)
    | false => exact fin _ (by rw [hm]; rfl)
  rw [if_neg c6]
  by_cases c7 : h = Str.ofString "few"
  · rw [if_pos c7]
    refine ⟨dx, _, hp1, _, hlk, ?_⟩
    refine ⟨_, _, rfl, NB.good hb hb2 ⟨n, rfl, hl1, fun q2 H2 K2 => ?_⟩⟩
    have L2 := L1.step K2
    refine use_show L2 (L2.sqI 0 rfl) (Nat.le_trans (fews_lim hb hlim) (by decide)) (fun d hd => Nat.le_trans (fews_mir hb n d hd).2.2 hn.2.2) fun H3 L3 => ?_
    refine good hn' (by rw [c7]; decide) (fun z => absurd (c7.symm.trans z.1) (by decide)) ?_ H3 L3.none
    unfold AnsT
    rw [if_neg c1, if_neg c2, if_neg c3, if_neg c5, if_neg c6, if_pos c7]
  rw [if_neg c7]
  have hh2 : h = "below" ∨ h = "above" ∨ h = "count" ∨ h = "place" := by
    unfold heads at hh
    simp only [List.mem_cons, List.not_mem_nil, or_false] at hh
    rcases hh with z | z | z | z | z | z | z | z | z | z | z
    · exact (c4 z).elim
    · exact (c5 z).elim
    · exact (c6 z).elim
    · exact .inl z
    · exact .inr (.inl z)
    · exact .inr (.inr (.inl z))
    · exact (c1 z).elim
    · exact .inr (.inr (.inr z))
    · exact (c7 z).elim
    · exact (c2 z).elim
    · exact (c3 z).elim
  refine ⟨dx, _, hp1, rfl, p, dx, b, n, h, rfl, hp1, hb, hb2, hn.2.2, hh2, fun c H2 M => ?_, fun c H2 M => ?_⟩
  · refine good hn' c4 c ?_ H2 (L1.step0 M)
    unfold AnsT
    rw [if_neg c1, if_neg c2, if_neg c3, if_neg c5, if_neg c6, if_neg c7]
  · exact qE _ H2 (.inr ⟨n, hn', by rw [if_neg c4, if_pos c]⟩) (L1.step0 M)
end
end Mi

namespace Mi
open PySem PySem.Spec PyProof.Rows L2
local macro_rules
  | `(tactic| walk_at "w") => `(tactic| try simp only [↓a_par, ↓a_fdG, ↓a_meG, ↓a_mkG, ↓a_sfdG, ↓a_tupG, ↓a_upper, ↓a_split, ↓a_join, ↓b_split, ↓b_join, ↓b_ixS, ↓b_notInS, ↓a_augS, ↓a_dget, ↓v_0, ↓n_0, ↓u_0, ↓v_1, ↓n_1, ↓u_1, ↓v_2, ↓n_2, ↓u_2, ↓v_3, ↓n_3, ↓u_3, ↓v_4, ↓n_4, ↓u_4, ↓v_5, ↓n_5, ↓u_5, ↓v_6, ↓n_6, ↓u_6, ↓v_7, ↓n_7, ↓u_7, ↓v_8, ↓n_8, ↓u_8, ↓v_9, ↓n_9, ↓u_9, ↓v_10, ↓n_10, ↓u_10, ↓v_11, ↓n_11, ↓u_11, ↓v_12, ↓n_12, ↓u_12, ↓v_13, ↓n_13, ↓u_13, ↓v_14, ↓n_14, ↓u_14, ↓v_15, ↓n_15, ↓u_15, ↓v_16, ↓n_16, ↓u_16, ↓v_17, ↓n_17, ↓u_17, ↓v_18, ↓n_18, ↓u_18, ↓v_19, ↓n_19, ↓u_19, ↓a_go, ↓g_int, ↓g_bl, ↓g_ref, ↓g_str, ↓g_rI, ↓g_rI0, ↓g_rU, ↓g_ipI, ↓g_cat, ↓g_ixL, ↓g_ixT, ↓g_slL, ↓g_append, ↓a_excV, ↓a_dispC, ↓a_dispV, ↓a_seq, ↓a_next, ↓a_tru, tru_bl, ↓b_isB, ↓b_notB, b_mulS, b_addS, b_intS, ↓b_lstRg, ↓b_rg1, ↓b_rg2, ↓a_to, b_geLI, b_gtLI, b_dictP, ↓a_dIn, ↓a_dNotIn, b_popAt, b_abs, ↓a_glst, a_sortSet, ↓a_dput, ↓a_dnewK, ↓a_dnewT, b_sortI, ↓a_iR3, b_reprV, b_countD, a_sortSetN, ↓isi_ii, ↓isi_ib, ↓isi_bi, ↓isi_bb, ↓a_asg, ↓a_c, ↓a_op, ↓a_un, ↓a_ret, ↓a_retN, ↓a_ifS, ↓a_drop, ↓a_test, ↓a_B, ↓a_and, ↓a_or, ↓a_not, ↓a_andV, ↓a_orV, ↓a_notV, ↓a_ifE, ↓a_nil, ↓a_cons, ↓a_lst, ↓a_tup, ↓a_cb, ↓a_bm, ↓a_bm0, ↓a_sl, ↓a_po, ↓a_pn, ↓a_gsub, ↓a_gnil, ↓a_gcons, ↓a_gtup, ↓a_chain, ↓a_eq, ↓a_ne, ↓a_yes, ↓a_revL, a_slL, a_ixL, a_ixT, a_append, a_setL, a_cat, ↓a_for, ↓a_lc, ↓a_iL, ↓a_iT, ↓a_iR1, ↓a_iR2, ↓a_iE, ↓a_iZ, ↓a_iS, b_lenL, b_int1b, b_int1i, b_listOf, b_max2, b_min2, b_sum, b_rep, b_eqLI0, b_eqLI1, ↓b_isN, ↓b_notN, ↓b_listEnum, ↓b_raise0, List.getElem?_cons_zero, List.getElem?_cons_succ, List.set_cons_zero, List.set_cons_succ, Option.some.injEq, V.int.injEq, V.ref.injEq, V.bl.injEq, V.str.injEq, List.cons.injEq, and_true, true_and, exists_eq_left', exists_eq_left, exists_eq_right, exists_eq_right', exists_and_left, exists_eq', exists_eq, decide_eq_true_eq, scal_ii, scal_bb, scal_ss, wipe, ↓reduceIte, reduceCtorEq, Bool.not_eq_true', Bool.false_eq_true, not_false_eq_true, not_true_eq_false, if_true, if_false, decide_eq_false_iff_not, List.length_cons, List.length_nil, Nat.zero_add, CDiv, CMul, CPow])
local macro_rules
  | `(tactic| walk_at "z") => `(tactic| first | omega | (rw [sizeLine_eq]; simp only [↓a_augS, ↓a_dget, List.length_append, List.length_map, List.length_cons, List.length_nil, List.length_reverse, nints]; omega) | decide | (simp only [List.length_append, List.length_map, List.length_cons, List.length_nil]; omega))
section
variable {K : PySem.W.Frag} {C : Str → Addr} {H B : Hp} {Q : VK} {E : XK} {F : List (Addr × HO)} {vs : List V}
theorem spl_bd (S : List Nat) : ∀ (l : List Nat) (k : Nat) (acc : List Nat), TL.spl S k acc l ≠ [] ∧ ∀ p ∈ TL.spl S k acc l, p.length ≤ acc.length + l.length
  | [], k, acc => by
    rw [TL.spl_nil]
    refine ⟨(fun z => nomatch z), fun p hp => ?_⟩
    rw [List.mem_singleton.mp hp]
    exact Nat.le_add_right _ _
  | c :: r, 0, acc => by
    by_cases h : TL.pre S (c :: r) = true
    · rw [TL.spl_hit h]
      refine ⟨(fun z => nomatch z), fun p hp => ?_⟩
      rcases List.mem_cons.mp hp with e | e
      · rw [e]
        exact Nat.le_add_right _ _
      · have := (spl_bd S r (S.length - 1) []).2 p e
        rw [List.length_cons]
        have e0 : ([] : List Nat).length = 0 := rfl
        omega
    · rw [TL.spl_miss (Bool.eq_false_iff.mpr h)]
      have := spl_bd S r 0 (acc ++ [c])
      refine ⟨this.1, fun p hp => ?_⟩
      have := this.2 p hp
      rw [List.length_append] at this
      rw [List.length_cons]
      have e0 : [c].length = 1 := rfl
      omega
  | c :: r, k + 1, acc => by
    have := spl_bd S r k acc
    refine ⟨this.1, fun p hp => ?_⟩
    have := this.2 p hp
    rw [List.length_cons]
    have : TL.spl S (k + 1) acc (c :: r) = TL.spl S k acc r := rfl
    omega
theorem split_sp (z : Str) : Txt.split z (Str.ofString " ") ≠ [] ∧ ∀ p ∈ Txt.split z (Str.ofString " "), p.length ≤ z.length := by
  have e := TL.split_spl z (Str.ofString " ") (by decide) (TL.kind_ok (by decide +kernel))
  obtain ⟨h1, h2⟩ := spl_bd (TL.tl (Str.ofString " ")) (TL.tl z) 0 []
  rw [← e] at h1 h2
  refine ⟨fun h => h1 (by rw [h]; rfl), fun p hp => ?_⟩
  have := h2 _ (List.mem_map_of_mem hp)
  rw [TL.len_tl, TL.len_tl]
  have e0 : ([] : List Nat).length = 0 := rfl
  omega
theorem inS {i : Str} {l : List Str} : inV (.str i) (l.map V.str) = decide (i ∈ l) := by
  unfold inV
  rw [List.any_map]
  induction l with
  | nil => rfl
  | cons x l ih =>
    rw [List.any_cons, ih]
    by_cases c : x = i
    · rw [c, decide_eq_true (List.mem_cons_self)]
      show (eqV (V.str i) (V.str i) || _) = true
      rw [show eqV (V.str i) (V.str i) = true from beq_self_eq_true i]
      rfl
    · rw [show ((fun y => eqV y (V.str i)) ∘ V.str) x = false from beq_eq_false_iff_ne.mpr c, Bool.false_or]
      by_cases d : i ∈ l
      · rw [decide_eq_true d, decide_eq_true (List.mem_cons_of_mem _ d)]
      · rw [decide_eq_false d, decide_eq_false (fun z => by
          rcases List.mem_cons.mp z with e | e
          · exact c e.symm
          · exact d e)]
theorem flatS {l : List Str} : (l.map V.str).all flatV = true := by
  rw [List.all_map]
  exact List.all_eq_true.mpr fun _ _ => rfl
theorem rd_Desk_say (h : sp_Desk_say K C vs H Q E) : t_Desk_say K C E (fin Q) (start ["self", "words", "parts", "number", "many"] vs) H := by
  obtain ⟨p, dx, b, x, rfl, hp, hb, hb2, hxl, hns, q, qE, qB⟩ := h
  show t_Desk_say K C E (fin Q) [some (.ref p), some x, none, none, none] H
  unfold t_Desk_say
  have hsl := sizeLine_eq
  have L0 := Led.refl H
  have hlk : List.lookup (Str.ofString "base") [(("base" : Str), V.int (b : Nat))] = some (V.int (b : Nat)) := rfl
  have fits : ∀ m : Nat, m < 2 ^ 1000 → ((m : Nat) : Int).natAbs.log2 < 1920 := fun m hm => Nat.lt_of_le_of_lt (log_dTk hm) (by decide)
  walk_at "w"
  rcases hns with ⟨z, rfl⟩ | ⟨hno, t, ht1, ht2⟩
  case inr =>
    refine ⟨x, .ty "str", t, .type "str", _, rfl, .ty _, ht1, ht2, _, rfl, ?_⟩
    rw [if_pos rfl]
    exact qE "NoCommand" H (.inr ⟨hno, rfl⟩) L0
  have hz := hxl z rfl
  refine isi_any (.inl (.base (.str z))) (kit_ty (r := true) (by decide +kernel)) ⟨_, rfl, ?_⟩
  rw [if_neg (fun z => nomatch z)]
  show t_Desk_say_r6 K C E _ _ _
  unfold t_Desk_say_r6
  walk_at "w"
  refine ⟨rfl, ?_⟩
  obtain ⟨hne, hpl⟩ := split_sp z
  have say : ∀ a, SayL b (Txt.split z (Str.ofString " ")) a → SayA b (.str z) a := fun a h => .inl ⟨z, rfl, h⟩
  generalize Txt.split z (Str.ofString " ") = ps at hne hpl say
  obtain ⟨hd, rs, rfl⟩ : ∃ hd rs, ps = hd :: rs := by
    cases ps with
    | nil => exact (hne rfl).elim
    | cons c r => exact ⟨c, r, rfl⟩
  refine ⟨by omega, fun p1 hp1 => ?_⟩
  (generalize eNW : upd _ _ _ = H1; have L1 := Led.new' L0 hp1 eNW; clear eNW)
  have L1 : Led H [(p1, .lst ((hd :: rs).map V.str))] H1 := L1
  have at0 : atI ((hd :: rs).map V.str) 0 = some (.str hd) := atI_nat (j := 0) rfl
  show t_Desk_say_r5 K C E _ _ _
  have ix0 : ∀ {H'}, Led H [(p1, .lst ((hd :: rs).map V.str))] H' → SqL K H' p1 ((hd :: rs).map V.str) := fun L => L.sqI 0 rfl
  -- the rows of ways
  have rest : ¬ (hd ∈ heads ∧ (hd :: rs).length = 2) → t_Desk_say_r4 K C E (fin Q) [some (.ref p), some (.str z), some (.ref p1), none, none] H1 := fun hnh => by
    unfold t_Desk_say_r4
    walk_at "w"
    refine ⟨_, L1.sqI 0 rfl, _, at0, by omega, fun p2 hp2 => ?_⟩
    (generalize eNW : upd _ _ _ = H2; have L2 := Led.new' L1 hp2 eNW; clear eNW)
    have ix2 : SqL K H2 p1 ((hd :: rs).map V.str) := L2.sqI 1 rfl
    refine ⟨p2, _, rfl, .inr (L2.stI 0 rfl), rfl, flatS (l := ["ways", "way"]), _, rfl, ?_⟩
    rw [if_pos (show true = true from rfl)]
    show if (!inV (.str hd) (([("ways" : Str), "way"] : List Str).map V.str)) = true then _ else _
    rw [inS]
    have nor : (∀ x y : Str, hd :: rs ≠ [("ways" : Str), x, y]) → (∀ x y z : Str, hd :: rs ≠ [("way" : Str), x, y, z]) → ∀ H', Led H [] H' → E (.ref (C "NoCommand")) none H' := fun h1 h2 H' L' =>
      qE "NoCommand" H' (say _ (.row ⟨fun h w e hh => hnh (by
        have e1 := List.head_eq_of_cons_eq e
        rw [e1]
        exact ⟨hh, by rw [← e1, e]; rfl⟩), h1, h2⟩)) L'
    by_cases c2 : hd ∈ ([("ways" : Str), "way"] : List Str)
    case neg =>
      rw [if_pos (by rw [decide_eq_false c2]; rfl)]
      exact nor (fun x y e => c2 (by rw [List.head_eq_of_cons_eq e]; decide)) (fun x y z e => c2 (by rw [List.head_eq_of_cons_eq e]; decide)) H2 L2.none
    rw [if_neg (by rw [decide_eq_true c2]; exact fun z => nomatch z)]
    refine ⟨_, .inl ix2, _, ix2, _, at0, rfl, ?_⟩
    have L3 : Led H [(p1, .lst ((hd :: rs).map V.str))] H2 := L2.one 1 rfl
    have go : ∀ (x y : Str) (tl : List Str), rs = x :: y :: tl → ((∀ n, ¬ NumIs x 500 n) ∨ (∀ m, ¬ NumIs y 12 m) → ∀ H', Led H [] H' → E (.ref (C "NoCommand")) none H') →
        (∀ n m H', NumIs x 500 n → NumIs y 12 m → Led H [(p1, .lst ((hd :: rs).map V.str))] H' → t_Desk_say_r2 K C E (fin Q) [some (.ref p), some (.str z), some (.ref p1), some (.int n), some (.int m)] H') →
        t_Desk_say_r3 K C E (fin Q) [some (.ref p), some (.str z), some (.ref p1), none, none] H2 := fun x y tl e bad good => by
      have a1 : atI ((hd :: rs).map V.str) 1 = some (.str x) := by rw [e]; exact atI_nat (j := 1) rfl
      have a2 : atI ((hd :: rs).map V.str) 2 = some (.str y) := by rw [e]; exact atI_nat (j := 2) rfl
      have hx := hpl x (by rw [e]; simp)
      have hy := hpl y (by rw [e]; simp)
      unfold t_Desk_say_r3
      walk_at "w"
      refine ⟨_, L3.sqI 0 rfl, _, a1, ?_⟩
      refine use_numin (most := 500) L3 (by omega) (fun n H3 hn L4 => ?_) (fun h H' L' => bad (.inl h) H' L'.none)
      refine ⟨_, L4.sqI 0 rfl, _, a2, ?_⟩
      refine use_numin (most := 12) L4 (by omega) (fun m H4 hm L5 => ?_) (fun h H' L' => bad (.inr h) H' L'.none)
      exact ⟨_, _, ⟨rfl, rfl⟩, good n m H4 hn hm L5⟩
    have hlen : ((hd :: rs).map V.str).length = rs.length + 1 := by rw [List.length_map]; rfl
    rw [hlen]
    by_cases c3 : hd = Str.ofString "way"
    · rw [if_pos (show V.str hd = V.str (Str.ofString "way") by rw [c3])]
      by_cases c4 : rs.length = 3
      case neg =>
        rw [if_pos (by omega)]
        refine nor (fun x y e => ?_) (fun x y w e => c4 ?_) H2 L2.none
        · have := List.head_eq_of_cons_eq e
          rw [c3] at this
          exact absurd this (by decide)
        · rw [List.tail_eq_of_cons_eq e]
          rfl
      rw [if_neg (by omega)]
      obtain ⟨x, y, w, rfl⟩ : ∃ x y w, rs = [x, y, w] := by
        match rs, c4 with
        | [x, y, w], _ => exact ⟨x, y, w, rfl⟩
      subst c3
      refine go x y [w] rfl (fun h H' L' => qE "NoCommand" H' (say _ (.num2 (by
        rcases h with h | h
        · exact .inl h
        · exact .inr (.inl h)))) L') fun n m H3 hn hm L4 => ?_
      unfold t_Desk_say_r2
      walk_at "w"
      refine ⟨_, L4.sqI 0 rfl, _, atI_nat (j := 0) rfl, rfl, ?_⟩
      rw [if_neg (fun e => absurd (V.str.inj e) (by decide))]
      unfold t_Desk_say_r1
      walk_at "w"
      refine ⟨dx, _, L4.base _ _ hp, _, hlk, _, L4.sqI 0 rfl, _, atI_nat (j := 3) rfl, ?_⟩
      have hw := hpl w (by simp)
      refine use_numin (most := 10 ^ 40) L4 (by omega) (fun k H5 hk L5 => ?_) (fun h H' L' => qE "NoCommand" H' (say _ (.num2 (.inr (.inr h)))) L'.none)
      have hn2 := hn.2.2
      have hm2 := hm.2.2
      refine ⟨_, _, _, _, rfl, NB.good hb hb2 ⟨n, m, k, rfl, rfl, rfl, by omega, by omega, fun c H6 K1 => qE "NoPlace" H6 (say _ (.place hn hm hk c)) (L5.step0 K1).none, fun l q2 H6 hl K1 => ?_⟩⟩
      have hl : (waysN b n m)[k]? = some l := hl
      have hway := waysN_mem.mp (List.mem_of_getElem? hl)
      have L6 := L5.step K1
      refine use_show L6 (L6.sqI 0 rfl) (by rw [hway.len]; omega) (fun d hd => Nat.le_trans (hway.mem d hd).2.2 (Nat.le_trans hn2 (by decide))) fun H7 L7 => ?_
      exact q _ H7 (say _ (.way hn hm hk hl)) L7.none
    · rw [if_neg (fun e => c3 (V.str.inj e))]
      have c5 : hd = Str.ofString "ways" := by
        simp only [List.mem_cons, List.not_mem_nil, or_false] at c2
        rcases c2 with e | e
        · exact e
        · exact (c3 e).elim
      by_cases c4 : rs.length = 2
      case neg =>
        rw [if_pos (by omega)]
        refine nor (fun x y e => c4 ?_) (fun x y w e => ?_) H2 L2.none
        · rw [List.tail_eq_of_cons_eq e]
          rfl
        · have := List.head_eq_of_cons_eq e
          rw [c5] at this
          exact absurd this (by decide)
      rw [if_neg (by omega)]
      obtain ⟨x, y, rfl⟩ : ∃ x y, rs = [x, y] := by
        match rs, c4 with
        | [x, y], _ => exact ⟨x, y, rfl⟩
      subst c5
      refine go x y [] rfl (fun h H' L' => qE "NoCommand" H' (say _ (.num1 h)) L') fun n m H3 hn hm L4 => ?_
      unfold t_Desk_say_r2
      walk_at "w"
      refine ⟨_, L4.sqI 0 rfl, _, atI_nat (j := 0) rfl, rfl, ?_⟩
      rw [if_pos rfl]
      have hn2 := hn.2.2
      have hm2 := hm.2.2
      refine ⟨dx, _, L4.base _ _ hp, _, hlk, ?_⟩
      refine ⟨_, _, _, rfl, NB.good hb hb2 ⟨n, m, rfl, rfl, by omega, by omega, fun H5 K1 => ?_⟩⟩
      exact ⟨_, rfl, fits _ (Nat.lt_trans (wn_500 hn2 hm2) (by decide +kernel)), q _ H5 (say _ (.ways hn hm)) (L4.step0 K1).none⟩
  unfold t_Desk_say_r5
  walk_at "w"
  refine ⟨_, L1.sqI 0 rfl, _, at0, fun a1 ha1 => ?_⟩
  refine ⟨a1, _, rfl, .inr ha1, rfl, flatS (l := heads), _, rfl, ?_⟩
  rw [if_neg (show ¬ (false = true) from fun z => nomatch z)]
  show if inV (.str hd) (heads.map V.str) = true then _ else _
  rw [inS]
  by_cases c1 : hd ∈ heads
  case neg =>
    rw [if_neg (fun h => c1 (of_decide_eq_true h))]
    exact rest fun h => c1 h.1
  rw [if_pos (decide_eq_true c1)]
  refine ⟨_, .inl (L1.sqI 0 rfl), ?_⟩
  rw [List.length_map]
  by_cases c2 : (hd :: rs).length = 2
  case neg =>
    rw [if_neg (by omega)]
    exact rest fun h => c2 h.2
  rw [if_pos (by omega)]
  obtain ⟨w, rfl⟩ : ∃ w, rs = [w] := by
    match rs, c2 with
    | [w], _ => exact ⟨w, rfl⟩
  have hp1' := L1.base _ _ hp
  refine ⟨dx, _, hp1', rfl, _, L1.sqI 0 rfl, _, at0, _, L1.sqI 0 rfl, _, atI_nat (j := 1) rfl, ?_⟩
  have hwl := hpl w (by simp)
  have L2 : Led H [] H1 := L1.none
  refine ⟨p, dx, b, hd, w, rfl, hp1', hb, hb2, c1, by omega, fun t H' h M => q t H' (say _ (.one c1 h)) (L2.step0 M), fun c H' h M => qE c H' (say _ (.one c1 h)) (L2.step0 M), fun b' H' h M => qB b' H' (say _ (.one c1 h)) ?_⟩
  exact ((Led.own1 hp).step0 L2).stepOwn (G := []) 0 rfl M
end
end Mi

namespace Mi
open PySem PySem.Spec PyProof.Rows L2
local macro_rules
  | `(tactic| walk_at "w") => `(tactic| try simp only [↓a_par, ↓a_fdG, ↓a_meG, ↓a_mkG, ↓a_sfdG, ↓a_tupG, ↓a_upper, ↓a_split, ↓a_join, ↓b_split, ↓b_join, ↓b_ixS, ↓b_notInS, ↓a_augS, ↓a_dget, ↓v_0, ↓n_0, ↓u_0, ↓v_1, ↓n_1, ↓u_1, ↓v_2, ↓n_2, ↓u_2, ↓v_3, ↓n_3, ↓u_3, ↓v_4, ↓n_4, ↓u_4, ↓v_5, ↓n_5, ↓u_5, ↓v_6, ↓n_6, ↓u_6, ↓v_7, ↓n_7, ↓u_7, ↓v_8, ↓n_8, ↓u_8, ↓v_9, ↓n_9, ↓u_9, ↓v_10, ↓n_10, ↓u_10, ↓v_11, ↓n_11, ↓u_11, ↓v_12, ↓n_12, ↓u_12, ↓v_13, ↓n_13, ↓u_13, ↓v_14, ↓n_14, ↓u_14, ↓v_15, ↓n_15, ↓u_15, ↓v_16, ↓n_16, ↓u_16, ↓v_17, ↓n_17, ↓u_17, ↓v_18, ↓n_18, ↓u_18, ↓v_19, ↓n_19, ↓u_19, ↓a_go, ↓g_int, ↓g_bl, ↓g_ref, ↓g_str, ↓g_rI, ↓g_rI0, ↓g_rU, ↓g_ipI, ↓g_cat, ↓g_ixL, ↓g_ixT, ↓g_slL, ↓g_append, ↓a_excV, ↓a_dispC, ↓a_dispV, ↓a_seq, ↓a_next, ↓a_tru, tru_bl, ↓b_isB, ↓b_notB, b_mulS, b_addS, b_intS, ↓b_lstRg, ↓b_rg1, ↓b_rg2, ↓a_to, b_geLI, b_gtLI, b_dictP, ↓a_dIn, ↓a_dNotIn, b_popAt, b_abs, ↓a_glst, a_sortSet, ↓a_dput, ↓a_dnewK, ↓a_dnewT, b_sortI, ↓a_iR3, b_reprV, b_countD, a_sortSetN, ↓isi_ii, ↓isi_ib, ↓isi_bi, ↓isi_bb, ↓a_asg, ↓a_c, ↓a_op, ↓a_un, ↓a_ret, ↓a_retN, ↓a_ifS, ↓a_drop, ↓a_test, ↓a_B, ↓a_and, ↓a_or, ↓a_not, ↓a_andV, ↓a_orV, ↓a_notV, ↓a_ifE, ↓a_nil, ↓a_cons, ↓a_lst, ↓a_tup, ↓a_cb, ↓a_bm, ↓a_bm0, ↓a_sl, ↓a_po, ↓a_pn, ↓a_gsub, ↓a_gnil, ↓a_gcons, ↓a_gtup, ↓a_chain, ↓a_eq, ↓a_ne, ↓a_yes, ↓a_revL, a_slL, a_ixL, a_ixT, a_append, a_setL, a_cat, ↓a_for, ↓a_lc, ↓a_iL, ↓a_iT, ↓a_iR1, ↓a_iR2, ↓a_iE, ↓a_iZ, ↓a_iS, b_lenL, b_int1b, b_int1i, b_listOf, b_max2, b_min2, b_sum, b_rep, b_eqLI0, b_eqLI1, ↓b_isN, ↓b_notN, ↓b_listEnum, ↓b_raise0, List.getElem?_cons_zero, List.getElem?_cons_succ, List.set_cons_zero, List.set_cons_succ, Option.some.injEq, V.int.injEq, V.ref.injEq, V.bl.injEq, V.str.injEq, List.cons.injEq, and_true, true_and, exists_eq_left', exists_eq_left, exists_eq_right, exists_eq_right', exists_and_left, exists_eq', exists_eq, decide_eq_true_eq, scal_ii, scal_bb, scal_ss, wipe, ↓reduceIte, reduceCtorEq, Bool.not_eq_true', Bool.false_eq_true, not_false_eq_true, not_true_eq_false, if_true, if_false, decide_eq_false_iff_not, List.length_cons, List.length_nil, Nat.zero_add, CDiv, CMul, CPow])
local macro_rules
  | `(tactic| walk_at "z") => `(tactic| first | omega | (rw [sizeLine_eq]; simp only [↓a_augS, ↓a_dget, List.length_append, List.length_map, List.length_cons, List.length_nil, List.length_reverse, nints]; omega) | decide | (simp only [List.length_append, List.length_map, List.length_cons, List.length_nil]; omega))
section
variable {K : PySem.W.Frag} {C : Str → Addr} {H B : Hp} {Q : VK} {E : XK} {F : List (Addr × HO)} {vs : List V}
/-- a word's text and number are of each other -/
theorem wv_some {z : Str} {n : Nat} (h : wv z = some n) : 1 ≤ z.length ∧ z.length ≤ 40 ∧ z.cps.toList.head? ≠ some 48 ∧ PySem.NumText.AllDigits z.cps.toList ∧ PySem.NumText.digitsVal z.cps.toList = n := by
  unfold wv at h
  split at h
  case isFalse => cases h
  case isTrue c =>
    obtain ⟨c1, c2, c3, c4⟩ := c
    refine ⟨c1, c2, c3, fun d hd => ?_, Option.some.inj h⟩
    have := List.all_eq_true.mp c4 d hd
    simp only [Bool.and_eq_true, decide_eq_true_eq] at this
    exact this
theorem wv_none {z : Str} (h : wv z = none) : ¬ (1 ≤ z.length ∧ z.length ≤ 40 ∧ z.cps.toList.head? ≠ some 48 ∧ PySem.NumText.AllDigits z.cps.toList) := fun ⟨c1, c2, c3, c4⟩ => by
  unfold wv at h
  rw [if_pos ⟨c1, c2, c3, List.all_eq_true.mpr fun d hd => by
    have := c4 d hd
    simp only [Bool.and_eq_true, decide_eq_true_eq]
    exact this⟩] at h
  cases h
theorem wv_is {z : Str} (h : 1 ≤ z.length ∧ z.length ≤ 40 ∧ z.cps.toList.head? ≠ some 48 ∧ PySem.NumText.AllDigits z.cps.toList) : wv z = some (PySem.NumText.digitsVal z.cps.toList) := by
  cases e : wv z with
  | none => exact (wv_none e h).elim
  | some n => rw [(wv_some e).2.2.2.2]
theorem wv_no {z : Str} (h : ¬ (1 ≤ z.length ∧ z.length ≤ 40 ∧ z.cps.toList.head? ≠ some 48 ∧ PySem.NumText.AllDigits z.cps.toList)) : wv z = none := by
  cases e : wv z with
  | none => rfl
  | some n => exact (h ⟨(wv_some e).1, (wv_some e).2.1, (wv_some e).2.2.1, (wv_some e).2.2.2.1⟩).elim
theorem wv_text {z : Str} {n : Nat} (h : wv z = some n) : z = dT n ∧ 0 < n ∧ n ≤ 10 ^ 40 := by
  obtain ⟨c1, c2, c3, c4, c5⟩ := wv_some h
  have hl : z.cps.toList.length = z.length := Array.length_toList
  obtain ⟨c, r, hcr⟩ : ∃ c r, z.cps.toList = c :: r := by
    cases e : z.cps.toList with
    | nil =>
      rw [e] at hl
      have hl : (0 : Nat) = z.length := hl
      omega
    | cons c r => exact ⟨c, r, rfl⟩
  have hc := c4 c (by rw [hcr]; exact List.mem_cons_self)
  have hc9 : 49 ≤ c := by
    have : c ≠ 48 := fun e => c3 (by rw [hcr, e]; rfl)
    omega
  have t := PySem.NumText.toDigits_digitsVal (z.length - 1) z.cps.toList (by omega) c4 (.inr ⟨c, r, hcr, hc9⟩)
  rw [c5] at t
  have ht : TL.tl z = TL.numL n := by
    unfold TL.numL
    rw [t, List.map_map]
    have : ∀ l : List Nat, PySem.NumText.AllDigits l → l.map (Char.toNat ∘ Char.ofNat) = l := fun l => by
      induction l with
      | nil => exact fun _ => rfl
      | cons x l ih =>
        intro h
        have hx := h x List.mem_cons_self
        rw [List.map_cons, ih (fun d hd => h d (List.mem_cons_of_mem _ hd))]
        have : ∀ k < 58, (Char.toNat ∘ Char.ofNat) k = k := by decide +kernel
        rw [this x (by omega)]
    exact (this _ c4).symm
  refine ⟨TL.ext_tl (ht.trans dT_tl.symm), ?_, ?_⟩
  · rw [← c5, hcr]
    exact PySem.NumText.digitsVal_pos hc9
  · have lt : ∀ (l : List Nat) (k : Nat), PySem.NumText.AllDigits l → l.foldl (fun acc c => acc * 10 + (c - 48)) k < (k + 1) * 10 ^ l.length := fun l => by
      induction l with
      | nil => exact fun k _ => by simp
      | cons x l ih =>
        intro k h
        have hx := h x List.mem_cons_self
        have := ih (k * 10 + (x - 48)) fun d hd => h d (List.mem_cons_of_mem _ hd)
        rw [List.foldl_cons, List.length_cons, Nat.pow_succ]
        refine Nat.lt_of_lt_of_le this ?_
        have : k * 10 + (x - 48) + 1 ≤ (k + 1) * 10 := by omega
        have := Nat.mul_le_mul_right (10 ^ l.length) this
        rw [Nat.mul_assoc, Nat.mul_comm 10] at this
        exact this
    have := lt z.cps.toList 0 c4
    rw [Nat.zero_add, Nat.one_mul] at this
    have e : PySem.NumText.digitsVal z.cps.toList < 10 ^ z.cps.toList.length := this
    rw [c5, hl] at e
    exact Nat.le_of_lt (Nat.lt_of_lt_of_le e (Nat.pow_le_pow_right (by decide) c2))
/-- a comprehension over a list whose every turn tells something, too -/
theorem lc_lp {a : Addr} {xs : List V} {j : Nat} {P : Addr} {Qd : Hp → Prop} {σ : _root_.L2.St} {tt : TT} {te : TE} {vs : List Nat} (L : Led B F H) (hP : H P = none) (hS : ∀ H, Led B F H → SqL K H a xs) (acc : Nat → List V) (R : Nat → Prop) (h0 : acc 0 = []) (r0 : R 0)
    (hs : ∀ i x H, xs[i]? = some x → R i → Led B ((P, .lst (acc i)) :: F) H → wipe ((wipe σ vs).set j (some x)) vs = wipe σ vs ∧ tt ((wipe σ vs).set j (some x)) H fun b H3 =>
      if b = true then te ((wipe σ vs).set j (some x)) H3 fun y H4 => ∃ l, H4 P = some (.lst l) ∧ l.length < sizeLine ∧ Led B ((P, .lst (acc (i + 1))) :: F) (upd H4 P (.lst (l ++ [y]))) ∧ R (i + 1) else Led B ((P, .lst (acc (i + 1))) :: F) H3 ∧ R (i + 1))
    (hd : ∀ H', R xs.length → Led B ((P, .lst (acc xs.length)) :: F) H' → Qd H') : LcG (Itl K a) (gName j) tt te vs σ P Qd H :=
  lc_g walk_list (fun i H => Led B ((P, .lst (acc i)) :: F) H ∧ R i) ⟨by rw [h0]; exact L.new hP, r0⟩ (fun _ _ _ p => hS _ p.1.tail) (fun i x H H' hi p y => by
    obtain ⟨e, y⟩ := y
    subst e
    exact hs i x _ y p.2 p.1) fun H p => hd H p.2 p.1
theorem rd_read_number (h : sp_read_number K C vs H Q E) : t_read_number K C E (fin Q) (start ["word", "figure"] vs) H := by
  obtain ⟨z, rfl, hz, q, qE⟩ := h
  show t_read_number K C E (fin Q) [some (.str z), none] H
  unfold t_read_number
  have hsl := sizeLine_eq
  have L0 := Led.refl H
  walk_at "w"
  refine ⟨_, rfl, by omega, ?_⟩
  walk_at "w"
  by_cases c1 : 1 ≤ z.length
  case neg =>
    rw [if_neg (by omega)]
    exact qE (wv_no fun h => c1 h.1) H L0
  rw [if_pos (by omega)]
  by_cases c2 : z.length ≤ 40
  case neg =>
    rw [if_pos (by omega)]
    exact qE (wv_no fun h => c2 h.2.1) H L0
  rw [if_neg (by omega)]
  have hlen : z.cps.toList.length = z.length := Array.length_toList
  obtain ⟨c0, r0, hcs⟩ : ∃ c0 r0, z.cps.toList = c0 :: r0 := by
    cases e : z.cps.toList with
    | nil =>
      rw [e] at hlen
      have : (0 : Nat) = z.length := hlen
      omega
    | cons c r => exact ⟨c, r, rfl⟩
  refine ⟨by omega, c0, by rw [hcs]; exact atI_nat (j := 0) rfl, ?_⟩
  have e0 : (Str.ofString "0").cps.toList = [48] := by decide
  by_cases c3 : c0 = 48
  · rw [if_pos (by
      rw [c3]
      rfl)]
    exact qE (wv_no fun h => h.2.2.1 (by rw [hcs, c3]; rfl)) H L0
  rw [if_neg (fun h => by
      have := congrArg (fun s : Str => s.cps.toList) h
      rw [e0] at this
      exact c3 (List.head_eq_of_cons_eq this))]
  refine for_g walk_str (fun i σ H' => Led H [] H' ∧ (∀ j c, j < i → z.cps[j]? = some c → 48 ≤ c ∧ c ≤ 57) ∧ ∃ y1, σ = [some (.str z), y1]) ⟨L0, (fun _ _ h => absurd h (Nat.not_lt_zero _)), _, rfl⟩ (fun _ _ _ _ _ => trivial) ?_ ?_
  · rintro i x σ H1 H2 hi ⟨L1, hd, y1, rfl⟩ ⟨rfl, c, hc, rfl⟩
    show t_read_number_b1 K C E _ _ _
    unfold t_read_number_b1
    walk_at "w"
    by_cases k' : c ∈ (Str.ofString "0123456789").cps.toList
    · have k := figs10.mp k'
      rw [if_neg (fun z => z k')]
      refine ⟨L1, fun j d hj hd2 => ?_⟩
      by_cases e : j = i
      · subst e
        rw [hc] at hd2
        cases hd2
        exact k
      · exact hd j d (by omega) hd2
    · have k := fun z => k' (figs10.mpr z)
      rw [if_pos k']
      exact qE (wv_no fun h => k (h.2.2.2 c (Array.mem_toList_iff.mpr (Array.mem_of_getElem? hc)))) _ L1
  · rintro σ H1 ⟨L1, hd, y1, rfl⟩
    have hdg : PySem.NumText.AllDigits z.cps.toList := fun c hc => by
      obtain ⟨j, hj⟩ := List.mem_iff_getElem?.mp hc
      have hj2 := (List.getElem?_eq_some_iff.mp hj).1
      rw [Array.getElem?_toList] at hj
      exact hd j c (by rw [hlen] at hj2; exact hj2) hj
    walk_at "w"
    refine ⟨_, PySem.intText_digits hdg (by rw [hcs]; exact fun z => nomatch z) (by omega), by omega, ?_⟩
    exact q _ (wv_is ⟨c1, c2, by rw [hcs]; exact fun e => c3 (Option.some.inj e), hdg⟩) H1 L1
theorem split_pl (z : Str) : Txt.split z (Str.ofString " + ") ≠ [] ∧ ∀ p ∈ Txt.split z (Str.ofString " + "), p.length ≤ z.length := by
  have e := TL.split_spl z (Str.ofString " + ") (by decide) (TL.kind_ok (by decide +kernel))
  obtain ⟨h1, h2⟩ := spl_bd (TL.tl (Str.ofString " + ")) (TL.tl z) 0 []
  rw [← e] at h1 h2
  refine ⟨fun h => h1 (by rw [h]; rfl), fun p hp => ?_⟩
  have := h2 _ (List.mem_map_of_mem hp)
  rw [TL.len_tl, TL.len_tl]
  have e0 : ([] : List Nat).length = 0 := rfl
  omega
theorem joinL_len (S : List Nat) : ∀ ls : List (List Nat), ls ≠ [] → (TL.joinL S ls).length + S.length = (ls.map (·.length)).sum + ls.length * S.length
  | [], h => (h rfl).elim
  | [p], _ => by
    show p.length + S.length = (p.length + 0) + 1 * S.length
    omega
  | p :: q :: r, _ => by
    have ih := joinL_len S (q :: r) (fun z => nomatch z)
    show (p ++ (S ++ TL.joinL S (q :: r))).length + S.length = (p.length + ((q :: r).map (·.length)).sum) + ((q :: r).length + 1) * S.length
    rw [List.length_append, List.length_append, Nat.succ_mul]
    omega
theorem join_len (y : Str) (ps : List Str) (h : ps ≠ []) : (Str.join y ps).length + y.length = (ps.map (·.length)).sum + ps.length * y.length := by
  have e := joinL_len (TL.tl y) (ps.map TL.tl) (fun z => h (List.map_eq_nil_iff.mp z))
  rw [List.map_map, List.length_map, ← TL.tl_join, ← TL.len_tl, ← TL.len_tl] at e
  rw [e]
  have : ps.map (List.length ∘ TL.tl) = ps.map (·.length) := List.map_congr_left fun p _ => (TL.len_tl p).symm
  rw [this]
/-- the words and the signs between them are as many as the text's -/
theorem split_sum (z : Str) : (((Txt.split z (Str.ofString " + ")).map (·.length)).sum) + (Txt.split z (Str.ofString " + ")).length * 3 = z.length + 3 := by
  have h := join_len (Str.ofString " + ") _ (split_pl z).1
  rw [StrLaws.join_split] at h
  have e : (Str.ofString " + ").length = 3 := by decide
  rw [e] at h
  exact h.symm
theorem split_cnt (z : Str) : (Txt.split z (Str.ofString " + ")).length ≤ z.length + 1 := by
  have := split_sum z
  omega
theorem pw_adj : ∀ {l : List Nat}, (∀ i x y, l[i]? = some x → l[i + 1]? = some y → y ≤ x) → l.Pairwise (· ≥ ·)
  | [], _ => .nil
  | [x], _ => .cons (fun _ h => nomatch h) .nil
  | x :: y :: l, h => by
    have ih : (y :: l).Pairwise (· ≥ ·) := pw_adj fun i a b h1 h2 => h (i + 1) a b h1 h2
    refine .cons (fun d hd => ?_) ih
    have h0 : y ≤ x := h 0 x y rfl rfl
    rcases List.mem_cons.mp hd with rfl | hd
    · exact h0
    · exact Nat.le_trans ((List.pairwise_cons.mp ih).1 d hd) h0
theorem map_some_inj : ∀ {l m : List Nat}, l.map some = m.map some → l = m
  | [], [], _ => rfl
  | [], _ :: _, h => nomatch h
  | _ :: _, [], h => nomatch h
  | x :: l, y :: m, h => by
    have h1 : some x = some y := List.head_eq_of_cons_eq h
    rw [Option.some.inj h1, map_some_inj (List.tail_eq_of_cons_eq h)]
theorem rd_read_way (h : sp_read_way K C vs H Q E) : t_read_way K C E (fin Q) (start ["text", "way", "place", "word"] vs) H := by
  obtain ⟨z, rfl, hz, q, qE⟩ := h
  show t_read_way K C E (fin Q) [some (.str z), none, none, none] H
  unfold t_read_way
  have hsl := sizeLine_eq
  have L0 := Led.refl H
  walk_at "w"
  by_cases c : z = Str.ofString "0"
  · rw [if_pos c]
    refine ⟨Nat.zero_le _, fun p hp => ?_⟩
    (generalize eNW : upd _ _ _ = H1; have L1 := Led.new' L0 hp eNW; clear eNW)
    exact q [] p H1 ⟨by unfold wds; rw [if_pos c]; rfl, .nil⟩ L1
  rw [if_neg c]
  obtain ⟨_, hpl⟩ := split_pl z
  have hw : wds z = (Txt.split z (Str.ofString " + ")).map wv := by
    unfold wds
    rw [if_neg c]
  refine ⟨by decide, by omega, fun p hp => ?_⟩
  (generalize eNW : upd _ _ _ = H1; have L1 := Led.new' L0 hp eNW; clear eNW)
  have hcnt := split_cnt z
  generalize Txt.split z (Str.ofString " + ") = ws at hpl hw L1 hcnt ⊢
  refine ⟨p, rfl, ⟨_, L1.sqI 0 rfl⟩, fun P hP => ?_⟩
  refine lc_lp L1 hP (xs := ws.map V.str) (fun H L => L.sqI 0 rfl) (fun i => nints ((ws.take i).map fun w => (wv w).getD 0)) (fun i => ∀ w ∈ ws.take i, wv w ≠ none) rfl (fun w h => nomatch h) (fun i x H2 hx r L2 => ⟨rfl, ?_⟩) fun H2 r L2 => ?_
  · rw [List.getElem?_map] at hx
    obtain ⟨w, hw1, rfl⟩ := Option.map_eq_some_iff.mp hx
    have hwl := hpl w (List.mem_of_getElem? hw1)
    walk_at "w"
    refine ⟨w, rfl, by omega, fun n hn H3 M => ?_, fun hn H3 M => ?_⟩
    · obtain ⟨l, e1, e2, e3⟩ := lc_y (acc' := nints ((ws.take (i + 1)).map fun w => (wv w).getD 0)) (L2.step0 M) (y := .int (n : Nat)) (by
        rw [take_succ_get hw1, List.map_append, nints_append]
        rw [List.map_cons, List.map_nil, hn]
        rfl) (by rw [nints_len, List.length_map, List.length_take]; omega)
      refine ⟨l, e1, e2, e3, fun v hv => ?_⟩
      rw [take_succ_get hw1] at hv
      rcases List.mem_append.mp hv with h | h
      · exact r v h
      · rw [List.mem_singleton.mp h, hn]
        exact fun z => nomatch z
    · refine qE (fun l ht => ?_) H3 (L2.step0 M).none
      have h1 := ht.1
      rw [hw] at h1
      have : wv w ∈ l.map some := by
        rw [← h1]
        exact List.mem_map_of_mem (List.mem_of_getElem? hw1)
      obtain ⟨d, _, hd⟩ := List.mem_map.mp this
      rw [hn] at hd
      cases hd
  rw [List.length_map, List.take_of_length_le (Nat.le_refl _)] at L2
  rw [List.length_map, List.take_of_length_le (Nat.le_refl _)] at r
  obtain ⟨l, hl⟩ : ∃ l : List Nat, l = ws.map fun w => (wv w).getD 0 := ⟨_, rfl⟩
  have hwl : wds z = l.map some := by
    rw [hw, hl, List.map_map]
    refine List.map_congr_left fun w hw => ?_
    show wv w = some ((wv w).getD 0)
    cases e : wv w with
    | none => exact (r w hw e).elim
    | some n => rfl
  have hll : l.length = ws.length := by rw [hl, List.length_map]
  rw [← hl] at L2
  show t_read_way_r2 K C E _ _ _
  unfold t_read_way_r2
  have L3 : Led H [(P, .lst (nints l))] H2 := L2.one 0 rfl
  walk_at "w"
  refine ⟨_, .inl (L3.sqI 0 rfl), ?_⟩
  rw [nints_len]
  refine ⟨1, _, ⟨rfl, rfl⟩, ⟨by decide, by decide, by omega, by omega⟩, ?_⟩
  refine for_r (fun i σ H' => Led H [(P, .lst (nints l))] H' ∧ (∀ j x y, j < i → l[j]? = some x → l[j + 1]? = some y → y ≤ x) ∧ ∃ y2, σ = [some (.str z), some (.ref P), y2, none]) ⟨L3, (fun j x y h => absurd h (Nat.not_lt_zero _)), _, rfl⟩ ?_ ?_
  · rintro N hN i σ H3 hi ⟨L4, hf, y2, rfl⟩
    show t_read_way_b1 K C E _ _ _
    unfold t_read_way_b1
    have hi2 : i + 1 < l.length := by omega
    walk_at "w"
    rw [show (1 : Int) + (i : Nat) = ((i + 1 : Nat) : Int) by omega]
    refine ⟨_, L4.sqI 0 rfl, .int (l[i + 1] : Nat), atI_nat (nints_at (List.getElem?_eq_getElem hi2)), _, L4.sqI 0 rfl, .int ((l[i]'(by omega) : Nat) : Int), ?_, ?_⟩
    · rw [show ((i + 1 : Nat) : Int) - 1 = (i : Nat) by omega]
      exact atI_nat (nints_at (List.getElem?_eq_getElem (by omega)))
    walk_at "w"
    by_cases cf : l[i + 1] ≤ l[i]'(by omega)
    · rw [if_neg (by omega)]
      refine hN _ _ _ ⟨L4, fun j x y hj h1 h2 => ?_, _, rfl⟩
      by_cases e : j = i
      · subst e
        rw [List.getElem?_eq_getElem (by omega)] at h1 h2
        cases h1
        cases h2
        exact cf
      · exact hf j x y (by omega) h1 h2
    · rw [if_pos (by omega)]
      refine qE (fun l' ht => ?_) H3 L4.none
      have e := ht.1
      rw [hwl] at e
      have e := map_some_inj e
      subst e
      have := List.pairwise_iff_getElem.mp ht.2 i (i + 1) (by omega) hi2 (by omega)
      omega
  · rintro σ H3 ⟨L4, hf, y2, rfl⟩
    walk_at "w"
    refine q l P H3 ⟨hwl, pw_adj fun j x y h1 h2 => ?_⟩ L4
    have := (List.getElem?_eq_some_iff.mp h2).1
    exact hf j x y (by omega) h1 h2
theorem rd__law_number_in_e (h : sp__law_number_in_e K C vs H Q E) : t__law_number_in_e K C E (fin Q) (start ["word", "figure"] vs) H := by
  obtain ⟨z, rfl, hz, q⟩ := h
  show t__law_number_in_e K C E (fin Q) [some (.str z), none] H
  unfold t__law_number_in_e
  have hsl := sizeLine_eq
  have L0 := Led.refl H
  walk_at "w"
  refine ⟨_, rfl, by omega, ?_⟩
  walk_at "w"
  have bad : wv z = none → ∀ H', Led H [] H' → Q .non H' := fun e H' L' => by
    have := q H' L'
    rw [e] at this
    exact this
  by_cases c1 : 1 ≤ z.length
  case neg =>
    rw [if_neg (by omega)]
    exact bad (wv_no fun h => c1 h.1) H L0
  rw [if_pos (by omega)]
  by_cases c2 : z.length ≤ 40
  case neg =>
    rw [if_pos (by omega)]
    exact bad (wv_no fun h => c2 h.2.1) H L0
  rw [if_neg (by omega)]
  have hlen : z.cps.toList.length = z.length := Array.length_toList
  obtain ⟨c0, r0, hcs⟩ : ∃ c0 r0, z.cps.toList = c0 :: r0 := by
    cases e : z.cps.toList with
    | nil =>
      rw [e] at hlen
      have : (0 : Nat) = z.length := hlen
      omega
    | cons c r => exact ⟨c, r, rfl⟩
  refine ⟨by omega, c0, by rw [hcs]; exact atI_nat (j := 0) rfl, ?_⟩
  have e0 : (Str.ofString "0").cps.toList = [48] := by decide
  by_cases c3 : c0 = 48
  · rw [if_pos (by
      rw [c3]
      rfl)]
    exact bad (wv_no fun h => h.2.2.1 (by rw [hcs, c3]; rfl)) H L0
  rw [if_neg (fun h => by
      have := congrArg (fun s : Str => s.cps.toList) h
      rw [e0] at this
      exact c3 (List.head_eq_of_cons_eq this))]
  intro P hP
  refine lc_led walk_str L0 hP (fun i => ((z.cps.toList.take i).map fun c => decide (c ∈ (Str.ofString "0123456789").cps.toList)).map V.bl) rfl (fun _ _ => trivial) (fun i x H1 H2 hi L1 y => ?_) fun H1 L1 => ?_
  · obtain ⟨rfl, c, hc, rfl⟩ := y
    walk_at "w"
    refine ⟨c, _, rfl, rfl, lc_y L1 ?_ ?_⟩
    · have hcl : z.cps.toList[i]? = some c := by rw [Array.getElem?_toList]; exact hc
      rw [take_succ_get hcl, List.map_append, List.map_append]
      rfl
    · rw [List.length_map, List.length_map, List.length_take]
      omega
  · have ht : z.cps.toList.take z.cps.size = z.cps.toList := List.take_of_length_le (Nat.le_of_eq Array.length_toList)
    rw [ht] at L1
    refine ⟨P, _, rfl, L1.sqI 0 rfl, _, rfl, ?_⟩
    by_cases k : PySem.NumText.AllDigits z.cps.toList
    case neg =>
      rw [if_neg (by
        rw [Bool.eq_false_iff.mpr fun h => k fun c hc => figs10.mp (of_decide_eq_true (List.all_eq_true.mp h _ (List.mem_map_of_mem hc)))]
        exact fun z => nomatch z)]
      exact bad (wv_no fun h => k h.2.2.2) H1 L1.none
    rw [if_pos (List.all_eq_true.mpr fun b hb => by
        obtain ⟨c, hc, rfl⟩ := List.mem_map.mp hb
        exact decide_eq_true (figs10.mpr (k c hc)))]
    have hi := PySem.intText_digits k (by rw [hcs]; exact fun z => nomatch z) (by omega)
    refine ⟨_, hi, by omega, ?_⟩
    have := q H1 L1.none
    rw [wv_is ⟨c1, c2, by rw [hcs]; exact fun e => c3 (Option.some.inj e), k⟩] at this
    exact this
end
end Mi

namespace Mi
open PySem PySem.Spec PyProof.Rows L2
local macro_rules
  | `(tactic| walk_at "w") => `(tactic| try simp only [↓a_par, ↓a_fdG, ↓a_meG, ↓a_mkG, ↓a_sfdG, ↓a_tupG, ↓a_upper, ↓a_split, ↓a_join, ↓b_split, ↓b_join, ↓b_ixS, ↓b_notInS, ↓a_augS, ↓a_dget, ↓v_0, ↓n_0, ↓u_0, ↓v_1, ↓n_1, ↓u_1, ↓v_2, ↓n_2, ↓u_2, ↓v_3, ↓n_3, ↓u_3, ↓v_4, ↓n_4, ↓u_4, ↓v_5, ↓n_5, ↓u_5, ↓v_6, ↓n_6, ↓u_6, ↓v_7, ↓n_7, ↓u_7, ↓v_8, ↓n_8, ↓u_8, ↓v_9, ↓n_9, ↓u_9, ↓v_10, ↓n_10, ↓u_10, ↓v_11, ↓n_11, ↓u_11, ↓v_12, ↓n_12, ↓u_12, ↓v_13, ↓n_13, ↓u_13, ↓v_14, ↓n_14, ↓u_14, ↓v_15, ↓n_15, ↓u_15, ↓v_16, ↓n_16, ↓u_16, ↓v_17, ↓n_17, ↓u_17, ↓v_18, ↓n_18, ↓u_18, ↓v_19, ↓n_19, ↓u_19, ↓a_go, ↓g_int, ↓g_bl, ↓g_ref, ↓g_str, ↓g_rI, ↓g_rI0, ↓g_rU, ↓g_ipI, ↓g_cat, ↓g_ixL, ↓g_ixT, ↓g_slL, ↓g_append, ↓a_excV, ↓a_dispC, ↓a_dispV, ↓a_seq, ↓a_next, ↓a_tru, tru_bl, ↓b_isB, ↓b_notB, b_mulS, b_addS, b_intS, ↓b_lstRg, ↓b_rg1, ↓b_rg2, ↓a_to, b_geLI, b_gtLI, b_dictP, ↓a_dIn, ↓a_dNotIn, b_popAt, b_abs, ↓a_glst, a_sortSet, ↓a_dput, ↓a_dnewK, ↓a_dnewT, b_sortI, ↓a_iR3, b_reprV, b_countD, a_sortSetN, ↓isi_ii, ↓isi_ib, ↓isi_bi, ↓isi_bb, ↓a_asg, ↓a_c, ↓a_op, ↓a_un, ↓a_ret, ↓a_retN, ↓a_ifS, ↓a_drop, ↓a_test, ↓a_B, ↓a_and, ↓a_or, ↓a_not, ↓a_andV, ↓a_orV, ↓a_notV, ↓a_ifE, ↓a_nil, ↓a_cons, ↓a_lst, ↓a_tup, ↓a_cb, ↓a_bm, ↓a_bm0, ↓a_sl, ↓a_po, ↓a_pn, ↓a_gsub, ↓a_gnil, ↓a_gcons, ↓a_gtup, ↓a_chain, ↓a_eq, ↓a_ne, ↓a_yes, ↓a_revL, a_slL, a_ixL, a_ixT, a_append, a_setL, a_cat, ↓a_for, ↓a_lc, ↓a_iL, ↓a_iT, ↓a_iR1, ↓a_iR2, ↓a_iE, ↓a_iZ, ↓a_iS, b_lenL, b_int1b, b_int1i, b_listOf, b_max2, b_min2, b_sum, b_rep, b_eqLI0, b_eqLI1, ↓b_isN, ↓b_notN, ↓b_listEnum, ↓b_raise0, List.getElem?_cons_zero, List.getElem?_cons_succ, List.set_cons_zero, List.set_cons_succ, Option.some.injEq, V.int.injEq, V.ref.injEq, V.bl.injEq, V.str.injEq, List.cons.injEq, and_true, true_and, exists_eq_left', exists_eq_left, exists_eq_right, exists_eq_right', exists_and_left, exists_eq', exists_eq, decide_eq_true_eq, scal_ii, scal_bb, scal_ss, wipe, ↓reduceIte, reduceCtorEq, Bool.not_eq_true', Bool.false_eq_true, not_false_eq_true, not_true_eq_false, if_true, if_false, decide_eq_false_iff_not, List.length_cons, List.length_nil, Nat.zero_add, CDiv, CMul, CPow])
local macro_rules
  | `(tactic| walk_at "z") => `(tactic| first | omega | (rw [sizeLine_eq]; simp only [↓a_augS, ↓a_dget, List.length_append, List.length_map, List.length_cons, List.length_nil, List.length_reverse, nints]; omega) | decide | (simp only [List.length_append, List.length_map, List.length_cons, List.length_nil]; omega))
section
variable {K : PySem.W.Frag} {C : Str → Addr} {H B : Hp} {Q : VK} {E : XK} {F : List (Addr × HO)} {vs : List V}
theorem use_take46 {a : Addr} {d : Int} {f c m : Nat} (L : Led B F H) (i : Nat) (hF : F[i]? = some (a, dkO d f c)) (hf : f ≤ 1) (hc : c ≤ 1000000) (hm : 0 < m) (hm2 : m ≤ 1000000000)
    (q : ∀ H' (d' : Int) (c' g : Nat), c' ≤ c + 1 → g < m → Led B (F.set i (a, dkO d' f c')) H' → Q (.int g) H') : sp__law_take_e K C [.ref a, .int m] H Q E :=
  ⟨a, d, f, c, m, rfl, L.get i hF, hf, hc, hm, hm2, fun H' d' c' g h1 h2 M => q H' d' c' g h1 h2 (L.stepOwn (G := []) i hF M)⟩
theorem str_at {zs : List Str} {k g : Nat} (hk : zs.all (fun z => decide (z.length ≤ k)) = true) (hg : g < zs.length) : ∃ z, atI (zs.map V.str) (g : Nat) = some (.str z) ∧ z.length ≤ k ∧ z ∈ zs := by
  refine ⟨zs[g], atI_nat ?_, of_decide_eq_true (List.all_eq_true.mp hk _ (List.getElem_mem _)), List.getElem_mem _⟩
  rw [List.getElem?_map, List.getElem?_eq_getElem hg]
  rfl
theorem nints_rev46 {l : List Nat} : (nints l).reverse = nints l.reverse := by
  unfold nints
  rw [← List.map_reverse, ← List.map_reverse]
theorem rd__law_text_e (h : sp__law_text_e K C vs H Q E) : t__law_text_e K C E (fin Q) (start ["deck", "way", "k", "number"] vs) H := by
  obtain ⟨a, d, f, c, rfl, ha, hf, hc, q⟩ := h
  show t__law_text_e K C E (fin Q) [some (.ref a), none, none, none] H
  unfold t__law_text_e
  have hsl := sizeLine_eq
  have L0 := Led.own1 ha
  walk_at "w"
  refine ⟨by omega, fun p hp => ?_⟩
  (generalize eNW : upd _ _ _ = H1; have L1 := Led.new' L0 hp eNW; clear eNW)
  refine ⟨by omega, fun p1 hp1 => ?_⟩
  (generalize eNW : upd _ _ _ = H2; have L2 := Led.new' L1 hp1 eNW; clear eNW)
  refine use_take46 (m := 6) L2 2 rfl hf (by omega) (by decide) (by decide) fun H3 d3 c3 g3 hc3 hg3 L3 => ⟨rfl, _, L3.sqI 0 rfl, ?_⟩
  obtain ⟨n, hn1, hn2, hn3⟩ : ∃ n : Nat, atI [V.int 6, V.int 100] (if V.int (g3 : Nat) = V.int 0 then 1 else 0) = some (.int (n : Nat)) ∧ 0 < n ∧ n ≤ 100 := by
    by_cases c0 : V.int (g3 : Nat) = .int 0
    · rw [if_pos c0]
      exact ⟨100, rfl, by decide, by decide⟩
    · rw [if_neg c0]
      exact ⟨6, rfl, by decide, by decide⟩
  refine ⟨_, hn1, use_take46 L3 2 rfl hf (by omega) hn2 (by omega) fun H4 d4 c4 g4 hc4 hg4 L4 => ⟨_, rfl, by omega, by omega, ?_⟩⟩
  rw [Int.toNat_natCast]
  have L4 : Led (rmv H a) [(p, .lst (nints [])), (a, dkO d4 f c4)] H4 := L4.tail
  refine for_r (fun i σ H' => ∃ (d' : Int) (c' : Nat) (l : List Nat) (y2 : Option V), c' ≤ c4 + 2 * i ∧ l.length = i ∧ (∀ d ∈ l, 0 < d ∧ d ≤ 1000000000) ∧ Led (rmv H a) [(p, .lst (nints l)), (a, dkO d' f c')] H' ∧ σ = [some (.ref a), some (.ref p), y2, none]) ⟨d4, c4, [], _, Nat.le_refl _, rfl, (fun _ h => nomatch h), L4, rfl⟩ ?_ ?_
  · rintro N hN i σ H5 hi ⟨d5, c5, l, y2, hc5, hl, hd, L5, rfl⟩
    show t__law_text_e_b1 K C E _ _ _
    unfold t__law_text_e_b1
    walk_at "w"
    refine ⟨.inl ⟨rfl, _, L5.sqI 0 rfl⟩, ⟨by decide, by decide, by decide⟩, by omega, fun p2 hp2 => ?_⟩
    (generalize eNW : upd _ _ _ = H6; have L6 := Led.new' L5 hp2 eNW; clear eNW)
    refine use_take46 (m := 3) L6 2 rfl hf (by omega) (by decide) (by decide) fun H7 d7 c7 g7 hc7 hg7 L7 => ?_
    obtain ⟨mm, hm1, hm2, hm3⟩ : ∃ mm : Nat, atI [V.int 3, V.int 100, V.int (10 ^ Int.toNat 9)] (g7 : Nat) = some (.int (mm : Nat)) ∧ 0 < mm ∧ mm ≤ 1000000000 := by
      have : g7 = 0 ∨ g7 = 1 ∨ g7 = 2 := by omega
      rcases this with rfl | rfl | rfl
      · exact ⟨3, rfl, by decide, by decide⟩
      · exact ⟨100, rfl, by decide, by decide⟩
      · exact ⟨1000000000, rfl, by decide, by decide⟩
    refine ⟨_, _, rfl, L7.sqI 0 rfl, _, hm1, use_take46 L7 2 rfl hf (by omega) hm2 hm3 fun H8 d8 c8 g8 hc8 hg8 L8 => ?_⟩
    walk_at "w"
    rw [show (1 : Int) + (g8 : Nat) = ((1 + g8 : Nat) : Int) by omega]
    refine ⟨_, L8.get 1 rfl, by rw [nints_len]; omega, ?_⟩
    generalize eP : upd _ _ _ = H9
    have L9 := L8.put' 1 rfl eP
    clear eP
    refine hN _ _ _ ⟨d8, c8, l ++ [1 + g8], _, by omega, by rw [List.length_append, hl]; rfl, fun d hd2 => ?_, by rw [nints_append]; exact L9.tail, rfl⟩
    rcases List.mem_append.mp hd2 with h | h
    · exact hd d h
    · rw [List.mem_singleton.mp h]
      omega
  · rintro σ H5 ⟨d5, c5, l, y2, hc5, hl, hd, L5, rfl⟩
    show t__law_text_e_r2 K C E _ _ _
    unfold t__law_text_e_r2
    walk_at "w"
    refine ⟨by omega, fun p5 h5 => ?_⟩
    (generalize eNW : upd _ _ _ = H6; have L6 := Led.new' L5 h5 eNW; clear eNW)
    rw [b_eqNil0]
    refine ⟨_, _, _, rfl, rfl, L6.sqI 1 rfl, L6.sqI 0 rfl, _, rfl, ?_⟩
    have L6 := L6.tail
    by_cases cl : l = []
    · rw [if_pos (by rw [cl]; rfl)]
      exact q _ H6 d5 c5 (by omega) (by decide) (L6.one 1 rfl)
    rw [if_neg (by
      cases l with
      | nil => exact (cl rfl).elim
      | cons x l => exact fun z => nomatch z)]
    refine ⟨l.map fun (d : Nat) => (d : Int), L6.sqI 0 rfl, fun ns' q1 hpm hpw hq1 => ?_⟩
    obtain ⟨l', hl'⟩ : ∃ l' : List Nat, l' = ns'.map Int.toNat := ⟨_, rfl⟩
    have hin : ∀ x ∈ ns', ∃ d ∈ l, x = ((d : Nat) : Int) := fun x hx => by
      obtain ⟨d, hd1, hd2⟩ := List.mem_map.mp (hpm.mem_iff.mp hx)
      exact ⟨d, hd1, hd2.symm⟩
    have hns : ns'.map V.int = nints l' := by
      rw [hl']
      unfold nints
      rw [List.map_map, List.map_map]
      refine List.map_congr_left fun x hx => ?_
      obtain ⟨d, _, rfl⟩ := hin x hx
      rfl
    have hd' : ∀ d ∈ l', d ≤ 1000000000 := fun d h => by
      rw [hl'] at h
      obtain ⟨x, hx, rfl⟩ := List.mem_map.mp h
      obtain ⟨d, hd1, rfl⟩ := hin x hx
      exact (hd d hd1).2
    have hlen : l'.length ≤ 100 := by
      rw [hl', List.length_map, hpm.length_eq, List.length_map, hl]
      omega
    rw [hns]
    (generalize eNW : upd _ _ _ = H7; have L7 := Led.new' L6 hq1 eNW; clear eNW)
    refine ⟨_, L7.sqI 0 rfl, fun q2 hq2 => ?_⟩
    (generalize eNW : upd _ _ _ = H8; have L8 := Led.new' L7 hq2 eNW; clear eNW)
    rw [nints_rev46] at L8
    refine ⟨⟨_, L8.sqI 0 rfl⟩, fun P hP => ?_⟩
    have hd2 : ∀ d ∈ l'.reverse, d ≤ 1000000000 := fun d h => hd' d (List.mem_reverse.mp h)
    refine lc_dT (l := l'.reverse) L8 hP (fun H L => L.sqI 0 rfl) (by rw [List.length_reverse]; omega) (fun _ => rfl) (fun d H R h hR => ?_) fun H9 L9 => ?_
    · walk_at "w"
      exact ⟨_, rfl, Nat.lt_of_le_of_lt (log_dTk (k := 100) (Nat.lt_of_le_of_lt (hd2 d h) (by decide))) (by decide), hR⟩
    have h10 : ∀ d ∈ l'.reverse, (dT d).length ≤ 10 := fun d h => by
      rw [TL.len_tl, dT_tl]
      exact TL.numL_len (by decide) (Nat.lt_of_le_of_lt (hd2 d h) (by decide))
    have hs := sum_dTk h10
    rw [List.length_reverse] at hs
    have e3 : (Str.ofString " + ").length = 3 := by decide
    refine ⟨l'.reverse.map dT, .inl (L9.sqI 0 rfl), by rw [List.length_map, List.length_reverse, e3]; omega, ?_⟩
    refine q _ H9 d5 c5 (by omega) ?_ (L9.one 4 rfl)
    rw [TL.join_eq]
    have := StrLaws.join_length_le (Str.ofString " + ") (l'.reverse.map dT)
    rw [e3, List.length_map, List.length_reverse] at this
    omega
def badN : List Str := ["", "0", "00", "01", "-1", "+1", "1.0", "1_0", "x", "0x1", "1-", "1e3", "+", " ", "1+1", Txt.mul "9" 40, Txt.mul "9" 41, "1" ++ Txt.mul "0" 39, "1" ++ Txt.mul "0" 40, Txt.mul "7" 900, "1,2", "1\n", "1 +", "+ 1"]
theorem badN_len : badN.all (fun z => decide (z.length ≤ 900)) = true := by decide +kernel
theorem rd__law_bad_e (h : sp__law_bad_e K C vs H Q E) : t__law_bad_e K C E (fin Q) (start ["deck", "some", "odd"] vs) H := by
  obtain ⟨a, d, f, c, rfl, ha, hf, hc, q⟩ := h
  show t__law_bad_e K C E (fin Q) [some (.ref a), none, none] H
  unfold t__law_bad_e
  have hsl := sizeLine_eq
  have L0 := Led.own1 ha
  walk_at "w"
  refine ⟨by omega, fun p hp => ?_⟩
  (generalize eNW : upd _ _ _ = H1; have L1 := Led.new' L0 hp eNW; clear eNW)
  refine ⟨by unfold MulOk; decide +kernel, by unfold MulOk; decide +kernel, by unfold MulOk; decide +kernel, by rw [hsl]; decide +kernel, by unfold MulOk; decide +kernel, by rw [hsl]; decide +kernel, by unfold MulOk; decide +kernel, by omega, fun p2 hp2 => ?_⟩
  (generalize eNW : upd _ _ _ = H2; have L2 := Led.new' L1 hp2 eNW; clear eNW)
  refine ⟨_, L2.get 1 rfl, _, L2.get 0 rfl, by rw [hsl]; exact Nat.le_trans (by decide : _ ≤ 100) (by decide), fun p3 hp3 => ?_⟩
  (generalize eNW : upd _ _ _ = H3; have L3 := Led.new' L2 hp3 eNW; clear eNW)
  walk_at "w"
  refine ⟨by omega, fun p4 hp4 => ?_⟩
  (generalize eNW : upd _ _ _ = H4; have L4 := Led.new' L3 hp4 eNW; clear eNW)
  refine ⟨_, L4.get 1 rfl, _, L4.get 0 rfl, by rw [hsl]; exact Nat.le_trans (by decide : _ ≤ 100) (by decide), fun p5 hp5 => ?_⟩
  (generalize eNW : upd _ _ _ = H5; have L5 := Led.new' L4 hp5 eNW; clear eNW)
  have L5 : Led (rmv H a) [(p5, .lst (badN.map V.str)), (a, dkO d f c)] H5 := L5.sub (.cons₂ _ (.cons _ (.cons _ (.cons _ (.cons _ (.cons₂ _ .slnil))))))
  refine ⟨.inl ⟨rfl, _, L5.sqI 0 rfl⟩, ?_⟩
  have hodd : (Str.ofString "!#$'()*./:;<=>?@BMXY[]^`{|}~abz").length = 31 := by decide +kernel
  have hodd2 : (Str.ofString "!#$'()*./:;<=>?@BMXY[]^`{|}~abz").cps.toList.length = 31 := by decide +kernel
  have ix : ∀ (g : Nat) H' (R : VK), g < 31 → (∀ sg : Nat, R (.str ⟨#[sg]⟩) H') → rIxS (V.str (Str.ofString "!#$'()*./:;<=>?@BMXY[]^`{|}~abz")) (.int (g : Nat)) H' R := fun g H' R hg hR => by
    walk_at "w"
    exact ⟨by rw [hsl, hodd]; decide, (Str.ofString "!#$'()*./:;<=>?@BMXY[]^`{|}~abz").cps.toList[g]'(by omega), atI_nat (List.getElem?_eq_getElem _), hR _⟩
  refine ⟨_, rfl, by rw [hsl, hodd]; decide, ?_⟩
  rw [hodd]
  refine use_take46 (m := 31) L5 1 rfl hf (by omega) (by decide) (by decide) fun H6 d6 c6 g6 hc6 hg6 L6 => ix g6 _ _ hg6 fun s1 => ?_
  refine ⟨_, L6.get 0 rfl, by rw [hsl]; exact Nat.lt_of_lt_of_le (by decide : _ < 100) (by decide), ?_⟩
  generalize eP : upd _ _ _ = H7
  have L7 := L6.put' 0 rfl eP
  clear eP
  refine ⟨.inl ⟨rfl, _, L7.sqI 0 rfl⟩, _, rfl, by rw [hsl, hodd]; decide, ?_⟩
  rw [hodd]
  refine use_take46 (m := 31) L7 1 rfl hf (by omega) (by decide) (by decide) fun H8 d8 c8 g8 hc8 hg8 L8 => ix g8 _ _ hg8 fun s2 => ⟨_, rfl, by rw [hsl]; show 1 + 1 ≤ 16777216; decide, _, L8.get 0 rfl, by rw [hsl, List.length_append, List.length_map]; exact Nat.lt_of_lt_of_le (by decide : badN.length + 1 < 100) (by decide), ?_⟩
  generalize eP : upd _ _ _ = H9
  have L9 := L8.put' 0 rfl eP
  clear eP
  have L9 : Led (rmv H a) [(p5, .lst ((badN ++ [⟨#[s1]⟩, Str.ofString "1" ++ ⟨#[s2]⟩]).map V.str)), (a, dkO d8 f c8)] H9 := L9
  refine ⟨_, .inl (L9.sqI 0 rfl), ?_⟩
  refine use_take46 (m := 26) L9 1 rfl hf (by omega) (by decide) (by decide) fun H10 d10 c10 g10 hc10 hg10 L10 => ?_
  obtain ⟨z, hz1, hz2, _⟩ := str_at (zs := badN ++ [⟨#[s1]⟩, Str.ofString "1" ++ ⟨#[s2]⟩]) (k := 900) (g := g10) (by
    rw [List.all_append, badN_len]
    rfl) hg10
  exact ⟨_, _, rfl, L10.sqI 0 rfl, _, hz1, q z H10 d10 c10 (by omega) hz2 (L10.one 1 rfl)⟩
theorem cut_mid46 (xs : List V) (i k : Nat) : cutV xs (some (i : Int)) (some ((i + k : Nat) : Int)) = (xs.drop i).take k := by
  unfold cutV
  rw [HT.sIx_nat, HT.sIx_nat]
  rcases Nat.le_total i xs.length with h | h
  · rw [Nat.min_eq_left h]
    rcases Nat.le_total (i + k) xs.length with g | g
    · rw [Nat.min_eq_left g, Nat.add_sub_cancel_left]
    · rw [Nat.min_eq_right g, List.take_of_length_le (by rw [List.length_drop]; exact Nat.le_refl _), List.take_of_length_le (by rw [List.length_drop]; omega)]
  · rw [Nat.min_eq_right h, List.drop_of_length_le (Nat.le_refl _), List.drop_of_length_le h, List.take_nil, List.take_nil]
theorem cutF {ws : List Str} {i : Nat} : cutV (ws.map V.str) (some (i : Int)) none = (ws.drop i).map V.str := by
  unfold cutV
  rw [HT.sIx_nat]
  show List.take ((ws.map V.str).length - min i (ws.map V.str).length) (List.drop (min i (ws.map V.str).length) (ws.map V.str)) = _
  rw [List.take_of_length_le (by rw [List.length_drop]; exact Nat.le_refl _), List.map_drop]
  rcases Nat.le_total i (ws.map V.str).length with h | h
  · rw [Nat.min_eq_left h]
  · rw [Nat.min_eq_right h, List.drop_of_length_le (Nat.le_refl _), List.drop_of_length_le h]
theorem cutA {ws : List Str} {i : Nat} : cutV (ws.map V.str) (some (i : Int)) (some ((i : Int) + 1)) = ((ws.drop i).take 1).map V.str := by
  rw [show (i : Int) + 1 = ((i + 1 : Nat) : Int) by omega, cut_mid46, List.map_take, List.map_drop]
theorem cutB {ws : List Str} {i : Nat} : cutV (ws.map V.str) (some ((i : Int) + 1)) (some ((i : Int) + 2)) = ((ws.drop (i + 1)).take 1).map V.str := by
  rw [show (i : Int) + 1 = ((i + 1 : Nat) : Int) by omega, show (i : Int) + 2 = ((i + 1 + 1 : Nat) : Int) by omega, cut_mid46, List.map_take, List.map_drop]
theorem cutC {ws : List Str} {i : Nat} : cutV (ws.map V.str) (some ((i : Int) + 2)) none = (ws.drop (i + 2)).map V.str := by
  rw [show (i : Int) + 2 = ((i + 2 : Nat) : Int) by omega, cutF]
theorem cutD {ws : List Str} {i : Nat} : cutV (ws.map V.str) none (some (i : Int)) = (ws.take i).map V.str := by
  rw [cut_none, List.map_take]
theorem sum_swap {ws : List Str} (i : Nat) : ((ws.take i ++ (ws.drop (i + 1)).take 1 ++ ((ws.drop i).take 1 ++ ws.drop (i + 2))).map (·.length)).sum = (ws.map (·.length)).sum := by
  have h : ∀ d : List Str, (((d.drop 1).take 1).map (·.length)).sum + (((d.take 1).map (·.length)).sum + ((d.drop 2).map (·.length)).sum) = (d.map (·.length)).sum := fun d => by
    match d with
    | [] => rfl
    | [x] => simp
    | x :: y :: r =>
      simp only [List.drop_succ_cons, List.drop_zero, List.take_succ_cons, List.take_zero, List.map_cons, List.map_nil, List.sum_cons, List.sum_nil]
      omega
  have e : ((ws.take i).map (·.length)).sum + ((ws.drop i).map (·.length)).sum = (ws.map (·.length)).sum := by
    rw [← List.sum_append, ← List.map_append, List.take_append_drop]
  have := h (ws.drop i)
  rw [List.drop_drop, List.drop_drop] at this
  simp only [List.map_append, List.sum_append]
  omega
theorem rd__law_spoilt_e (h : sp__law_spoilt_e K C vs H Q E) : t__law_spoilt_e K C E (fin Q) (start ["deck", "text", "way", "at", "sign", "words", "last"] vs) H := by
  obtain ⟨a, d, f, c, y, rfl, ha, hf, hc, hy, q⟩ := h
  show t__law_spoilt_e K C E (fin Q) [some (.ref a), some (.str y), none, none, none, none, none] H
  unfold t__law_spoilt_e
  have hsl := sizeLine_eq
  have L0 := Led.own1 ha
  walk_at "w"
  refine use_take46 (m := 6) L0 0 rfl hf (by omega) (by decide) (by decide) fun H1 d1 c1 g1 hc1 hg1 L1 => ?_
  refine ⟨y, rfl, by omega, ?_⟩
  walk_at "w"
  rw [show (y.length : Int) + 1 = ((y.length + 1 : Nat) : Int) by omega]
  refine use_take46 (m := y.length + 1) L1 0 rfl hf (by omega) (by omega) (by omega) fun H2 d2 c2 g2 hc2 hg2 L2 => ?_
  refine use_take46 (m := 9) L2 0 rfl hf (by omega) (by decide) (by decide) fun H3 d3 c3 g3 hc3 hg3 L3 => ?_
  walk_at "w"
  have e9 : (Str.ofString " 0129+-a\n").cps.toList.length = 9 := by decide
  refine ⟨by rw [hsl]; decide, (Str.ofString " 0129+-a\n").cps.toList[g3]'(by omega), atI_nat (List.getElem?_eq_getElem _), ?_⟩
  generalize (Str.ofString " 0129+-a\n").cps.toList[g3]'(by omega) = sg
  have esg : (⟨#[sg]⟩ : Str).length = 1 := rfl
  have cl := fun lo hi => cutS_length y lo hi
  have hup := PyProof.Rows.len_upper y
  by_cases k0 : (g1 : Int) = 0
  · rw [if_pos k0]
    have h1 := cl none (some (g2 : Int))
    have h2 := cl (some ((g2 : Int) + 1)) none
    exact ⟨y, rfl, by omega, y, rfl, by omega, _, rfl, _, rfl, by omega, q _ H3 (by rw [Str.length_append]; omega) L3.none⟩
  rw [if_neg k0]
  by_cases k3 : (g1 : Int) < 3
  · rw [if_pos k3]
    have h1 := cl none (some (g2 : Int))
    have h2 := cl (some ((g2 : Int) + (g1 : Int) - 1)) none
    have e1 : (cutS y none (some (g2 : Int)) ++ (⟨#[sg]⟩ : Str)).length = (cutS y none (some (g2 : Int))).length + 1 := by rw [Str.length_append, esg]
    exact ⟨y, rfl, by omega, _, rfl, by omega, y, rfl, by omega, _, rfl, by omega, q _ H3 (by rw [Str.length_append]; omega) L3.none⟩
  rw [if_neg k3]
  refine ⟨by decide, by omega, fun p hp => ?_⟩
  (generalize eNW : upd _ _ _ = H4; have L4 := Led.new' L3 hp eNW; clear eNW)
  have hsum := split_sum y
  generalize Txt.split y (Str.ofString " + ") = ws at L4 hsum
  have L4 : Led (rmv H a) [(p, .lst (ws.map V.str)), (a, dkO d3 f c3)] H4 := L4
  have e3 : (Str.ofString " + ").length = 3 := by decide
  have fin : ∀ (zs : List Str) H', (zs.map (·.length)).sum + zs.length * 3 ≤ 3900 → Led (rmv H a) [] H' → Q (.str (Txt.join (Str.ofString " + ") zs)) H' := fun zs H' hz L' => by
    refine q _ H' ?_ L'
    rw [TL.join_eq]
    have := StrLaws.join_length_le (Str.ofString " + ") zs
    rw [e3] at this
    omega
  refine ⟨p, rfl, _, .inl (L4.sqI 0 rfl), ?_⟩
  rw [List.length_map, show (ws.length : Int) + 1 = ((ws.length + 1 : Nat) : Int) by omega]
  refine use_take46 (m := ws.length + 1) L4 1 rfl hf (by omega) (by omega) (by omega) fun H5 d5 c5 at_ hc5 hat L5 => ?_
  have L5 : Led (rmv H a) [(p, .lst (ws.map V.str)), (a, dkO d5 f c5)] H5 := L5
  by_cases k4 : (g1 : Int) = 3
  · rw [if_pos k4]
    refine ⟨_, rfl, ?_⟩
    walk_at "w"
    refine ⟨_, L5.sqI 0 rfl, fun p6 h6 => ?_⟩
    (generalize eNW : upd _ _ _ = H6; have L6 := Led.new' L5 h6 eNW; clear eNW)
    walk_at "w"
    refine ⟨_, L6.sqI 1 rfl, fun p7 h7 => ?_⟩
    (generalize eNW : upd _ _ _ = H7; have L7 := Led.new' L6 h7 eNW; clear eNW)
    rw [cutA, cutC] at L7
    refine ⟨_, L7.get 1 rfl, _, L7.get 0 rfl, by simp only [List.length_append, List.length_map, List.length_take, List.length_drop]; omega, fun p8 h8 => ?_⟩
    (generalize eNW : upd _ _ _ = H8; have L8 := Led.new' L7 h8 eNW; clear eNW)
    refine ⟨_, L8.sqI 3 rfl, fun p9 h9 => ?_⟩
    (generalize eNW : upd _ _ _ = H9; have L9 := Led.new' L8 h9 eNW; clear eNW)
    refine ⟨_, L9.sqI 4 rfl, fun p10 h10 => ?_⟩
    (generalize eNW : upd _ _ _ = H10; have L10 := Led.new' L9 h10 eNW; clear eNW)
    rw [cutB, cutD] at L10
    refine ⟨_, L10.get 1 rfl, _, L10.get 0 rfl, by simp only [List.length_append, List.length_map, List.length_take, List.length_drop]; omega, fun p11 h11 => ?_⟩
    (generalize eNW : upd _ _ _ = H11; have L11 := Led.new' L10 h11 eNW; clear eNW)
    refine ⟨_, L11.get 0 rfl, _, L11.get 3 rfl, by simp only [List.length_append, List.length_map, List.length_take, List.length_drop]; omega, fun p12 h12 => ?_⟩
    (generalize eNW : upd _ _ _ = H12; have L12 := Led.new' L11 h12 eNW; clear eNW)
    rw [← List.map_append, ← List.map_append, ← List.map_append] at L12
    have g1 := sum_swap (ws := ws) at_
    rw [e3]
    have : (((ws.take at_ ++ (ws.drop (at_ + 1)).take 1 ++ ((ws.drop at_).take 1 ++ ws.drop (at_ + 2))).map (·.length)).sum) + (ws.take at_ ++ (ws.drop (at_ + 1)).take 1 ++ ((ws.drop at_).take 1 ++ ws.drop (at_ + 2))).length * 3 ≤ 3900 := by
      have hl : (ws.take at_ ++ (ws.drop (at_ + 1)).take 1 ++ ((ws.drop at_).take 1 ++ ws.drop (at_ + 2))).length ≤ ws.length := by
        simp only [List.length_append, List.length_take, List.length_drop]
        omega
      rw [g1]
      omega
    exact ⟨_, .inl (L12.sqI 0 rfl), by omega, fin _ _ this L12.none⟩
  · rw [if_neg k4]
    refine ⟨_, rfl, p, rfl, _, L5.sqI 0 rfl, fun p6 h6 => ?_⟩
    (generalize eNW : upd _ _ _ = H6; have L6 := Led.new' L5 h6 eNW; clear eNW)
    refine ⟨a, d5, f, c5, rfl, L6.get 2 rfl, hf, by omega, fun bz H7 d7 c7 hc7 hbz M => ?_⟩
    have L7 := L6.stepOwn (G := []) 2 rfl M
    refine ⟨by omega, fun p8 h8 => ?_⟩
    (generalize eNW : upd _ _ _ = H8; have L8 := Led.new' L7 h8 eNW; clear eNW)
    rw [cutD] at L8
    refine ⟨_, L8.get 1 rfl, _, L8.get 0 rfl, by simp only [List.length_append, List.length_map, List.length_take, List.length_drop, List.length_cons, List.length_nil]; omega, fun p9 h9 => ?_⟩
    (generalize eNW : upd _ _ _ = H9; have L9 := Led.new' L8 h9 eNW; clear eNW)
    walk_at "w"
    rw [show (at_ : Int) + (g1 : Nat) - 4 = ((at_ + (g1 - 4) : Nat) : Int) by omega]
    refine ⟨_, L9.sqI 3 rfl, fun p10 h10 => ?_⟩
    (generalize eNW : upd _ _ _ = H10; have L10 := Led.new' L9 h10 eNW; clear eNW)
    rw [cutF] at L10
    refine ⟨_, L10.get 1 rfl, _, L10.get 0 rfl, by simp only [List.length_append, List.length_map, List.length_take, List.length_drop, List.length_cons, List.length_nil]; omega, fun p11 h11 => ?_⟩
    (generalize eNW : upd _ _ _ = H11; have L11 := Led.new' L10 h11 eNW; clear eNW)
    have L11 : Led (rmv H a) [(p11, .lst ((ws.take at_ ++ [bz] ++ ws.drop (at_ + (g1 - 4))).map V.str))] H11 := by
      have := L11.one 0 rfl
      rw [List.map_append, List.map_append]
      exact this
    have e : ((ws.take at_).map (·.length)).sum + ((ws.drop at_).map (·.length)).sum = (ws.map (·.length)).sum := by
      rw [← List.sum_append, ← List.map_append, List.take_append_drop]
    have e2 : ((ws.drop (at_ + (g1 - 4))).map (·.length)).sum ≤ ((ws.drop at_).map (·.length)).sum := by
      have : ((((ws.drop at_).take (g1 - 4)).map (·.length)).sum) + (((ws.drop at_).drop (g1 - 4)).map (·.length)).sum = ((ws.drop at_).map (·.length)).sum := by
        rw [← List.sum_append, ← List.map_append, List.take_append_drop]
      rw [List.drop_drop] at this
      omega
    have hb : ((ws.take at_ ++ [bz] ++ ws.drop (at_ + (g1 - 4))).map (·.length)).sum + (ws.take at_ ++ [bz] ++ ws.drop (at_ + (g1 - 4))).length * 3 ≤ 3900 := by
      simp only [List.map_append, List.sum_append, List.length_append, List.length_take, List.length_drop, List.map_cons, List.map_nil, List.sum_cons, List.sum_nil, List.length_cons, List.length_nil]
      omega
    rw [e3]
    exact ⟨_, .inl (L11.sqI 0 rfl), by omega, fin _ _ hb L11.none⟩
theorem vO_flat (ds : List (Option Nat)) : (ds.map vO).all flatV = true := by
  rw [List.all_eq_true]
  intro x hx
  obtain ⟨d, _, rfl⟩ := List.mem_map.mp hx
  cases d <;> rfl
theorem vO_in (ds : List (Option Nat)) : inV .non (ds.map vO) = decide (none ∈ ds) := by
  unfold inV
  rw [List.any_map]
  induction ds with
  | nil => rfl
  | cons d ds ih =>
    rw [List.any_cons, ih]
    cases d with
    | none =>
      rw [decide_eq_true (List.mem_cons_self)]
      rfl
    | some n =>
      rw [show decide (none ∈ some n :: ds) = decide (none ∈ ds) by simp]
      rfl
theorem vO_some (l : List Nat) : (l.map some).map vO = nints l := by
  unfold nints
  rw [List.map_map, List.map_map]
  rfl
theorem fall_sorted {l : List Nat} {ns' : List Int} (hf : l.Pairwise (· ≥ ·)) (hpm : ns'.Perm (l.map fun (d : Nat) => (d : Int))) (hpw : ns'.Pairwise (· ≤ ·)) : ns' = l.reverse.map fun (d : Nat) => (d : Int) := by
  refine List.Perm.eq_of_pairwise (le := (· ≤ ·)) (fun a b _ _ h1 h2 => Int.le_antisymm h1 h2) hpw ?_ (hpm.trans ?_)
  · rw [List.map_reverse, List.pairwise_reverse, List.pairwise_map]
    exact hf.imp fun h => by omega
  · exact (List.Perm.map _ (List.reverse_perm l)).symm
theorem cast_inj46 : ∀ {l m : List Nat}, (l.map fun (d : Nat) => (d : Int)) = m.map (fun (d : Nat) => (d : Int)) → l = m
  | [], [], _ => rfl
  | [], _ :: _, h => nomatch h
  | _ :: _, [], h => nomatch h
  | x :: l, y :: m, h => by
    have h1 : (x : Int) = (y : Int) := List.head_eq_of_cons_eq h
    have h2 := cast_inj46 (List.tail_eq_of_cons_eq h)
    rw [h2, show x = y by omega]
theorem txt_bd {z : Str} {l : List Nat} (h : TxtW z l) : ∀ d ∈ l, d ≤ 10 ^ 40 := fun d hd => by
  have h1 : some d ∈ wds z := by
    rw [h.1]
    exact List.mem_map_of_mem hd
  unfold wds at h1
  split at h1
  · cases h1
  · obtain ⟨w, _, hw⟩ := List.mem_map.mp h1
    exact (wv_text hw).2.2
theorem words_text : ∀ {ws : List Str} {l : List Nat}, ws.map wv = l.map some → ws = l.map dT
  | [], [], _ => rfl
  | [], _ :: _, h => nomatch h
  | _ :: _, [], h => nomatch h
  | w :: ws, d :: l, h => by
    have h1 : wv w = some d := List.head_eq_of_cons_eq h
    rw [List.map_cons, ← words_text (List.tail_eq_of_cons_eq h), ← (wv_text h1).1]
theorem txt_text {z : Str} {l : List Nat} (h : TxtW z l) : wT l = z := by
  have h1 := h.1
  unfold wds at h1
  split at h1
  case isTrue c =>
    have : l = [] := List.map_eq_nil_iff.mp h1.symm
    rw [this, c]
    rfl
  case isFalse c =>
    have hw := words_text h1
    have hne := (split_pl z).1
    have hl : l ≠ [] := fun e => by
      rw [e] at hw
      exact hne hw
    unfold wT
    rw [if_neg hl, ← hw, TL.join_eq]
    exact StrLaws.join_split z _
theorem txt_len {z : Str} {l : List Nat} (h : TxtW z l) : 4 * l.length ≤ z.length + 3 := by
  have h1 := h.1
  unfold wds at h1
  split at h1
  case isTrue c =>
    have : l = [] := List.map_eq_nil_iff.mp h1.symm
    rw [this]
    exact Nat.zero_le _
  case isFalse c =>
    have hw := words_text h1
    have hs := split_sum z
    have hp : ∀ ws : List Str, (∀ w ∈ ws, 1 ≤ w.length) → ws.length ≤ (ws.map (·.length)).sum := fun ws => by
      induction ws with
      | nil => exact fun _ => Nat.le_refl _
      | cons w ws ih =>
        intro h
        have h1 := h w List.mem_cons_self
        have h2 := ih fun x hx => h x (List.mem_cons_of_mem _ hx)
        rw [List.length_cons, List.map_cons, List.sum_cons]
        omega
    have h2 := hp _ fun w hw2 => by
      have : wv w ∈ (Txt.split z (Str.ofString " + ")).map wv := List.mem_map_of_mem hw2
      have h1 : (Txt.split z (Str.ofString " + ")).map wv = l.map some := h1
      rw [h1] at this
      obtain ⟨d, _, hd⟩ := List.mem_map.mp this
      exact (wv_some hd.symm).1
    have h3 : (Txt.split z (Str.ofString " + ")).length = l.length := by
      have hw : Txt.split z (Str.ofString " + ") = l.map dT := hw
      rw [hw, List.length_map]
    omega
theorem rd__law_right_e (xf_NoText : ExF K C "NoText") (h : sp__law_right_e K C vs H Q E) : t__law_right_e K C E (fin Q) (start ["text", "found", "kinds", "e", "due", "word"] vs) H := by
  obtain ⟨z, rfl, hz, q⟩ := h
  show t__law_right_e K C E (fin Q) [some (.str z), none, none, none, none, none] H
  unfold t__law_right_e
  have hsl := sizeLine_eq
  have L0 := Led.refl H
  walk_at "w"
  refine ⟨Nat.zero_le _, fun p1 h1 => ?_⟩
  (generalize eNW : upd _ _ _ = H1; have L1 := Led.new' L0 h1 eNW; clear eNW)
  unfold tSee
  walk_at "w"
  -- what is due, behind
  have due : ∀ (fnd : V) (kp : Addr) (G : List (Addr × HO)) (H2 : Hp), Led H G H2 → (∀ (dp : Addr) (H3 : Hp), Led H ((dp, .lst ((wds z).map vO)) :: G) H3 → t__law_right_e_r1 K C E (fin Q) [some (V.str z), some fnd, some (V.ref kp), none, some (V.ref dp), none] H3) →
      if z = Str.ofString "0" then 0 ≤ sizeLine ∧ ∀ (p : Addr), H2 p = none → t__law_right_e_r1 K C E (fin Q) [some (V.str z), some fnd, some (V.ref kp), none, some (V.ref p), none] (upd H2 p (HO.lst []))
      else ((Str.ofString " + ").length == 0) = false ∧ z.length + 2 ≤ sizeLine ∧ rNewStrs (Txt.split z (Str.ofString " + ")) H2 fun x_1 H1 => ∃ a, x_1 = V.ref a ∧ (∃ xs, SqL K H1 a xs) ∧ ∀ (P : Addr), H1 P = none →
        LcG (Itl K a) (gName 5) tYes (tGo (sp__law_number_in_e K C) (fun x => E0) (tCons (tVar 5) tNil)) [5] [some (V.str z), some fnd, some (V.ref kp), none, none, none] P
          (fun H => t__law_right_e_r1 K C E (fin Q) [some (V.str z), some fnd, some (V.ref kp), none, some (V.ref P), none] H) H1 := fun fnd kp G H2 L2 r => by
    by_cases c : z = Str.ofString "0"
    · rw [if_pos c]
      refine ⟨Nat.zero_le _, fun p hp => ?_⟩
      (generalize eNW : upd _ _ _ = H3; have L3 := Led.new' L2 hp eNW; clear eNW)
      refine r p H3 ?_
      unfold wds
      rw [if_pos c]
      exact L3
    rw [if_neg c]
    have hw : wds z = (Txt.split z (Str.ofString " + ")).map wv := by
      unfold wds
      rw [if_neg c]
    obtain ⟨_, hpl⟩ := split_pl z
    have hcnt := split_cnt z
    refine ⟨by decide, by omega, fun p hp => ?_⟩
    (generalize eNW : upd _ _ _ = H3; have L3 := Led.new' L2 hp eNW; clear eNW)
    generalize Txt.split z (Str.ofString " + ") = ws at hpl hw L3 hcnt ⊢
    refine ⟨p, rfl, ⟨_, L3.sqI 0 rfl⟩, fun P hP => ?_⟩
    refine lc_l L3 hP (xs := ws.map V.str) (fun H L => L.sqI 0 rfl) (fun i => ((ws.take i).map wv).map vO) rfl (fun i x H4 hx L4 => ⟨rfl, ?_⟩) fun H4 L4 => ?_
    · rw [List.getElem?_map] at hx
      obtain ⟨w, hw1, rfl⟩ := Option.map_eq_some_iff.mp hx
      have hwl := hpl w (List.mem_of_getElem? hw1)
      walk_at "w"
      refine ⟨w, rfl, by omega, fun H5 M => lc_y (L4.step0 M) ?_ ?_⟩
      · rw [take_succ_get hw1, List.map_append, List.map_append]
        rfl
      · rw [List.length_map, List.length_map, List.length_take]
        omega
    · rw [List.length_map, List.take_of_length_le (Nat.le_refl _)] at L4
      rw [← hw] at L4
      exact r P H4 (L4.sub (.cons₂ _ (.cons _ (List.Sublist.refl _))))
  refine ⟨z, rfl, by omega, fun l p H2 ht M => ?_, fun hn H2 M => ?_⟩
  · refine due _ _ _ H2 (L1.step M) fun dp H3 L3 => ?_
    unfold t__law_right_e_r1
    walk_at "w"
    rw [ht.1] at L3
    refine ⟨dp, _, rfl, .inl (L3.sqI 0 rfl), rfl, vO_flat _, _, rfl, ?_⟩
    rw [vO_in, if_neg (fun z => by
      have := of_decide_eq_true z
      obtain ⟨_, _, h⟩ := List.mem_map.mp this
      cases h)]
    rw [vO_some] at L3
    refine ⟨l.map fun (d : Nat) => (d : Int), L3.sqI 0 rfl, fun ns' q1 hpm hpw hq1 => ?_⟩
    have hns : ns' = l.reverse.map fun (d : Nat) => (d : Int) := fall_sorted ht.2 hpm hpw
    subst hns
    (generalize eNW : upd _ _ _ = H4; have L4 := Led.new' L3 hq1 eNW; clear eNW)
    have L4 : Led H ((q1, .lst (nints l.reverse)) :: _) H4 := L4
    refine ⟨_, L4.sqI 0 rfl, fun q2 hq2 => ?_⟩
    (generalize eNW : upd _ _ _ = H5; have L5 := Led.new' L4 hq2 eNW; clear eNW)
    rw [nints_rev46, List.reverse_reverse] at L5
    refine ⟨l.map fun (d : Nat) => (d : Int), L5.sqI 2 rfl, l.map fun (d : Nat) => (d : Int), L5.sqI 0 rfl, ?_⟩
    rw [if_neg (fun z => z rfl)]
    refine ⟨by omega, fun p9 h9 => ?_⟩
    (generalize eNW : upd _ _ _ = H6; have L6 := Led.new' L5 h9 eNW; clear eNW)
    rw [b_eqNil0]
    refine ⟨_, _, _, rfl, rfl, L6.sqI 5 rfl, L6.sqI 0 rfl, _, rfl, ?_⟩
    rw [if_pos (show ([] : List V).isEmpty = true from rfl)]
    have hwt := txt_text ht
    have hlt := txt_len ht
    have hbd := txt_bd ht
    have hlim : ∀ d ∈ l, d < lim := fun d hd => Nat.lt_of_le_of_lt (hbd d hd) (by decide +kernel)
    refine repr_ints (l := l) (L6.sqI 4 rfl) hlim (by omega) (repr_ints (l := l) (L6.sqI 3 rfl) hlim (by omega) ⟨rfl, ?_⟩)
    rw [if_pos rfl]
    refine ⟨dp, l, rfl, L6.sqI 3 rfl, by omega, hbd, fun H7 M7 => ⟨rfl, ?_⟩⟩
    rw [hwt, decide_eq_true rfl]
    exact q H7 (L6.step0 M7).none
  · refine ⟨rfl, xf_NoText.top, fun e he => ?_⟩
    have L2 := L1.step0 M
    generalize eNW : upd _ _ _ = H3
    have L3 := Led.new' (o := ExK (.ref (C "NoText")) e) L2 he eNW
    clear eNW
    walk_at "w"
    refine isX_ (L3.get 0 rfl) xf_NoText.ec ExF.own (.own _) ?_
    refine isX_ (L3.get 0 rfl) xf_NoText.ec xf_NoText.ve (.ty _) ?_
    refine ⟨by omega, fun p4 h4 => ?_⟩
    (generalize eNW : upd _ _ _ = H4; have L4 := Led.new' L3 h4 eNW; clear eNW)
    refine ⟨.inl ⟨rfl, _, L4.sqI 0 rfl⟩, by omega, fun p5 h5 => ?_⟩
    (generalize eNW : upd _ _ _ = H5; have L5 := Led.new' L4 h5 eNW; clear eNW)
    refine ⟨_, _, _, _, _, false, rfl, L5.get 0 rfl, .cons (.own _) (.cons (.own _) (.cons (.own _) (.cons (.own _) (.cons (.own _) (.cons (.own _) .nil))))), .inr ⟨e, _, rfl, rfl, L5.get 2 rfl, xf_NoText.ec⟩, kit_none fun u hu => ?_, ?_⟩
    · simp only [List.mem_cons, List.not_mem_nil, or_false] at hu
      rcases hu with rfl | rfl | rfl | rfl | rfl | rfl <;> exact xf_NoText.no _ (by decide) (by decide)
    walk_at "w"
    refine ⟨_, L5.get 1 rfl, by rw [hsl]; show 2 < 16777216; decide, ?_⟩
    generalize eQ : upd _ _ _ = H6
    have L6 := L5.put' 1 rfl eQ
    clear eQ
    have L6 : Led H [(p4, .lst [.bl true, .bl true, .bl false])] H6 := L6.one 1 rfl
    refine due _ _ _ H6 L6 fun dp H7 L7 => ?_
    have bad : ∀ (r : Addr) (G : List (Addr × HO)) (H8 : Hp), Led H ((r, .lst [.bl true, .bl true, .bl false]) :: (G ++ [(p4, .lst [.bl true, .bl true, .bl false])])) H8 → rEqD K (V.ref p4) (V.ref r) H8 Q := fun r G H8 L8 => by
      have e4 : ((r, HO.lst [.bl true, .bl true, .bl false]) :: (G ++ [(p4, HO.lst [.bl true, .bl true, .bl false])]))[G.length + 1]? = some (p4, .lst [.bl true, .bl true, .bl false]) := by simp
      have dp3 : DpAll K H8 [V.bl true, V.bl true, V.bl false] [.bool true, .bool true, .bool false] := .cons (.bl _) (.cons (.bl _) (.cons (.bl _) .nil))
      refine ⟨_, _, .lst (L8.sqI (G.length + 1) e4) dp3, .lst (L8.sqI 0 rfl) dp3, by rfl, by rfl, ?_⟩
      rw [PySem.SeqAt.eqv_refl _ (by rfl)]
      exact q H8 L8.none
    unfold t__law_right_e_r1
    walk_at "w"
    refine ⟨dp, _, rfl, .inl (L7.sqI 0 rfl), rfl, vO_flat _, _, rfl, ?_⟩
    rw [vO_in, if_neg (show ¬ (false = true) from fun z => nomatch z)]
    by_cases cn : none ∈ wds z
    · rw [if_pos (decide_eq_true cn)]
      refine ⟨by omega, fun p8 h8 => ?_⟩
      (generalize eNW : upd _ _ _ = H8; have L8 := Led.new' L7 h8 eNW; clear eNW)
      exact bad p8 [_] H8 L8
    rw [if_neg (fun z => cn (of_decide_eq_true z))]
    obtain ⟨l, hl⟩ : ∃ l : List Nat, wds z = l.map some := by
      refine ⟨(wds z).map fun o => o.getD 0, ?_⟩
      rw [List.map_map]
      conv => lhs; rw [← List.map_id (wds z)]
      refine List.map_congr_left fun o ho => ?_
      cases o with
      | none => exact (cn ho).elim
      | some n => rfl
    rw [hl, vO_some] at L7
    refine ⟨l.map fun (d : Nat) => (d : Int), L7.sqI 0 rfl, fun ns' q1 hpm hpw hq1 => ?_⟩
    have hin : ∀ x ∈ ns', ∃ d ∈ l, x = ((d : Nat) : Int) := fun x hx => by
      obtain ⟨d, hd1, hd2⟩ := List.mem_map.mp (hpm.mem_iff.mp hx)
      exact ⟨d, hd1, hd2.symm⟩
    obtain ⟨l', hl'⟩ : ∃ l' : List Nat, ns' = l'.map fun (d : Nat) => (d : Int) := by
      refine ⟨ns'.map Int.toNat, ?_⟩
      rw [List.map_map]
      conv => lhs; rw [← List.map_id ns']
      refine List.map_congr_left fun x hx => ?_
      obtain ⟨d, _, rfl⟩ := hin x hx
      rfl
    subst hl'
    (generalize eNW : upd _ _ _ = H8; have L8 := Led.new' L7 hq1 eNW; clear eNW)
    have L8 : Led H [(q1, .lst (nints l')), (dp, .lst (nints l)), (p4, .lst [.bl true, .bl true, .bl false])] H8 := L8
    refine ⟨_, L8.sqI 0 rfl, fun q2 hq2 => ?_⟩
    (generalize eNW : upd _ _ _ = H9; have L9 := Led.new' L8 hq2 eNW; clear eNW)
    rw [nints_rev46] at L9
    refine ⟨l.map fun (d : Nat) => (d : Int), L9.sqI 2 rfl, l'.reverse.map fun (d : Nat) => (d : Int), L9.sqI 0 rfl, ?_⟩
    rw [if_pos (fun e => ?_)]
    · refine ⟨by omega, fun p9 h9 => ?_⟩
      (generalize eNW : upd _ _ _ = H10; have L10 := Led.new' L9 h9 eNW; clear eNW)
      exact bad p9 [_, _, _] H10 L10
    · have e2 : l = l'.reverse := cast_inj46 e
      refine hn l ⟨hl, ?_⟩
      rw [e2, List.pairwise_reverse]
      rw [List.pairwise_map] at hpw
      exact hpw.imp fun h => by omega
theorem Led.drop46 {a : Addr} {o : HO} {G : List (Addr × HO)} {H' : Hp} (L : Led B ((a, o) :: F) H) (M : Led (rmv H a) G H') : Led B (G ++ F) H' := by
  have na := L.fresh 0 rfl
  have L2 : Led B F (rmv H a) := by
    refine ⟨fun b o e => ?_, fun x hx => ?_, L.tail.nd⟩
    · exact (rmv_ne (fun z => by rw [z, na] at e; cases e)).trans (L.base b o e)
    · obtain ⟨h1, h2⟩ := L.tail.own x hx
      refine ⟨(rmv_ne (fun z => ?_)).trans h1, h2⟩
      have nd := L.nd
      rw [List.map_cons, List.nodup_cons] at nd
      exact nd.1 (List.mem_map.mpr ⟨x, hx, z⟩)
  exact L2.step M
theorem use_right46 {z : Str} (L : Led B F H) (hz : z.length ≤ 3900) (q : ∀ H', Led B F H' → Q (.bl true) H') : sp__law_right_e K C [.str z] H Q E := ⟨z, rfl, hz, fun H' M => q H' (L.step0 M)⟩
theorem rd_law (h : sp_law K C vs H Q E) : t_law K C E (fin Q) (start ["script", "cell", "deck", "text"] vs) H := by
  obtain ⟨a, ns, rfl, hS, hns, q⟩ := h
  show t_law K C E (fin Q) [some (.ref a), none, none, none] H
  unfold t_law
  have hsl := sizeLine_eq
  have L0 := Led.refl H
  walk_at "w"
  refine ⟨_, hS, fun p hp => ?_⟩
  rw [show cutV (ns.map V.int) none (some 40) = (ns.take 40).map V.int from (cut_none (ns.map V.int) 40).trans (List.map_take ..).symm]
  (generalize eNW : upd _ _ _ = H1; have L1 := Led.new' L0 hp eNW; clear eNW)
  refine ⟨by omega, fun p1 hp1 => ?_⟩
  (generalize eNW : upd _ _ _ = H2; have L2 := Led.new' L1 hp1 eNW; clear eNW)
  refine ⟨_, L2.get 1 rfl, _, L2.get 0 rfl, by rw [List.length_map, List.length_take]; show min _ _ + 2 ≤ sizeLine; omega, fun p2 hp2 => ?_⟩
  (generalize eNW : upd _ _ _ = H3; have L3 := Led.new' L2 hp2 eNW; clear eNW)
  rw [show (ns.take 40).map V.int ++ [V.int 0, V.int 1] = (ns.take 40 ++ [0, 1]).map V.int by rw [List.map_append]; rfl] at L3
  have L3 := L3.one 0 rfl
  refine ⟨⟨_, L3.sqI 0 rfl⟩, ?_⟩
  refine for_l (fun i σ H' => ∃ (y1 y2 y3 : Option V), Led H [(p2, .lst ((ns.take 40 ++ [0, 1]).map V.int))] H' ∧ σ = [some (.ref a), y1, y2, y3]) ⟨_, _, _, L3, rfl⟩ (fun i σ H' _ ⟨_, _, _, L', _⟩ => L'.sqI 0 rfl) ?_ ?_
  · rintro N hN i x σ H4 hx ⟨y1, y2, y3, L4, rfl⟩
    obtain ⟨c, rfl⟩ : ∃ c : Int, x = .int c := by
      obtain ⟨c, _, e⟩ := List.mem_map.mp (List.mem_of_getElem? hx)
      exact ⟨c, e.symm⟩
    unfold t_law_b1
    walk_at "w"
    refine ⟨c, 5, rfl, fun dp H5 d f hf K1 => ?_⟩
    have L5 := L4.step K1
    walk_at "w"
    refine ⟨dp, d, f, 5, rfl, L5.get 0 rfl, hf, by decide, fun z H6 d6 c6 hc6 hz K2 => ?_⟩
    have L6 : Led H [(dp, dkO d6 f c6), (p2, .lst ((ns.take 40 ++ [0, 1]).map V.int))] H6 := L5.stepOwn (G := []) 0 rfl K2
    walk_at "w"
    refine use_right46 L6 (by omega) fun H7 L7 => ⟨_, rfl, ?_⟩
    rw [if_neg (fun z => nomatch z)]
    refine ⟨dp, d6, f, c6, z, rfl, L7.get 0 rfl, hf, by omega, hz, fun z2 H8 hz2 K3 => ?_⟩
    have L8 : Led H [(p2, .lst ((ns.take 40 ++ [0, 1]).map V.int))] H8 := L7.drop46 K3
    refine use_right46 L8 hz2 fun H9 L9 => ⟨_, rfl, ?_⟩
    rw [if_neg (fun z => nomatch z)]
    exact hN _ _ _ ⟨_, _, _, L9, rfl⟩
  · rintro σ H4 ⟨y1, y2, y3, L4, rfl⟩
    unfold t_law_r2
    walk_at "w"
    refine ⟨by unfold MulOk; decide +kernel, by rw [hsl]; decide +kernel, use_right46 L4 (by decide +kernel) fun H5 L5 => ⟨_, rfl, ?_⟩⟩
    rw [if_pos rfl]
    refine ⟨by unfold MulOk; decide +kernel, use_right46 L5 (by decide +kernel) fun H6 L6 => ⟨_, rfl, ?_⟩⟩
    rw [if_pos rfl]
    exact use_right46 L6 (by decide) fun H7 _ => q H7
end
end Mi

namespace Mi
open PySem PySem.Spec PyProof.Rows L2
def topS (i : Nat) : Stmt := PySem.Challenge.pw_mirrorsums_k46_texts_of_no_way.main.body.getD i (.Pass ⟨0, 0, 0, 0⟩)
theorem len_any {sp : Sp} {n : Nat} (h : ∀ vs H Q E, sp vs H Q E → vs.length = n) : ∀ vs H Q E, sp vs H Q E → vs.length = n := h

abbrev s__law_deck : Stmt := topS 18
theorem sc__law_deck : FnScope ["cell", "k"] ["cell", "k"] (defScope s__law_deck) := ⟨rfl, rfl, rfl, by decide +kernel, rfl, by decide +kernel, by decide +kernel⟩
abbrev s__law_take : Stmt := topS 17
theorem sc__law_take : FnScope ["deck", "many", "number", "come"] ["deck", "many"] (defScope s__law_take) := ⟨rfl, rfl, rfl, by decide +kernel, rfl, by decide +kernel, by decide +kernel⟩
abbrev s__law_text : Stmt := topS 19
theorem sc__law_text : FnScope ["deck", "way", "k", "number"] ["deck"] (defScope s__law_text) := ⟨rfl, rfl, rfl, by decide +kernel, rfl, by decide +kernel, by decide +kernel⟩
abbrev s_read_number : Stmt := topS 12
theorem sc_read_number : FnScope ["word", "figure"] ["word"] (defScope s_read_number) := ⟨rfl, rfl, rfl, by decide +kernel, rfl, by decide +kernel, by decide +kernel⟩
abbrev s_read_way : Stmt := topS 14
theorem sc_read_way : FnScope ["text", "way", "place", "word"] ["text"] (defScope s_read_way) := ⟨rfl, rfl, rfl, by decide +kernel, rfl, by decide +kernel, by decide +kernel⟩
abbrev s__law_number_in : Stmt := topS 22
theorem sc__law_number_in : FnScope ["word", "figure"] ["word"] (defScope s__law_number_in) := ⟨rfl, rfl, rfl, by decide +kernel, rfl, by decide +kernel, by decide +kernel⟩
abbrev s_show_way : Stmt := topS 13
theorem sc_show_way : FnScope ["way", "number"] ["way"] (defScope s_show_way) := ⟨rfl, rfl, rfl, by decide +kernel, rfl, by decide +kernel, by decide +kernel⟩
abbrev s__law_right : Stmt := topS 23
theorem sc__law_right : FnScope ["text", "found", "kinds", "e", "due", "word"] ["text"] (defScope s__law_right) := ⟨rfl, rfl, rfl, by decide +kernel, rfl, by decide +kernel, by decide +kernel⟩
abbrev s__law_bad : Stmt := topS 20
theorem sc__law_bad : FnScope ["deck", "some", "odd"] ["deck"] (defScope s__law_bad) := ⟨rfl, rfl, rfl, by decide +kernel, rfl, by decide +kernel, by decide +kernel⟩
abbrev s__law_spoilt : Stmt := topS 21
theorem sc__law_spoilt : FnScope ["deck", "text", "way", "at", "sign", "words", "last"] ["deck", "text"] (defScope s__law_spoilt) := ⟨rfl, rfl, rfl, by decide +kernel, rfl, by decide +kernel, by decide +kernel⟩
abbrev s_law : Stmt := topS 24
theorem sc_law : FnScope ["script", "cell", "deck", "text"] ["script"] (defScope s_law) := ⟨rfl, rfl, rfl, by decide +kernel, rfl, by decide +kernel, by decide +kernel⟩
section
variable {P : Program} {w : World} {K : PySem.W.Frag} {mg : Str → Option Value} {base : Heap} {C : Str → Addr}
theorem c__law_deck {f : Addr} {fd : FuncData} (F : Fun K "_law_deck" "_law_deck" s__law_deck f fd) (B : Binds K fd ["cell", "k"] []) (hm : mg "_law_deck" = some (.ref f))  : Cal P w K mg base 1 "_law_deck" (sp__law_deck_e K C) := by
  refine ⟨f, hm, F.kp, fg_of F sc__law_deck B (fun vs H Q E h => by (repeat (rcases h with ⟨_, h⟩)) <;> (subst_vars; rfl)) (fun cdv A outer s H vs Q E hr h => ⟨t__law_deck_e K C E, ?_, rd__law_deck_e  h⟩)⟩
  have sc := sc__law_deck
  have po := passes_of (X := cxOf (L2.CX P w) P w K mg base ["cell", "k"] "_law_deck" (defScope s__law_deck) f cdv A outer s H E) rfl
  have tk0 : Takes (cxOf (L2.CX P w) P w K mg base ["cell", "k"] "_law_deck" (defScope s__law_deck) f cdv A outer s H E) (fun cls d _ H => E cls d H) := takes_of rfl rfl rfl rfl
  exact (pss_cons (ps_if (pt_cmpR (op_ge) (pv 0) (pe_op op_pow pe_int pe_int) (nomark _)) (pss_one (ps_ret (pe_lst (pa_cons (pe_op op_sub (pv 0) (pe_op op_pow pe_int pe_int)) (pa_cons pe_int (pa_cons (pv 1) pa_nil)))))) pss_nil)
    (pss_one (ps_ret (pe_lst (pa_cons (pv 0) (pa_cons pe_int (pa_cons (pv 1) pa_nil)))))))
theorem c__law_take {f : Addr} {fd : FuncData} (F : Fun K "_law_take" "_law_take" s__law_take f fd) (B : Binds K fd ["deck", "many"] []) (hm : mg "_law_take" = some (.ref f))  : Cal P w K mg base 1 "_law_take" (sp__law_take_e K C) := by
  refine ⟨f, hm, F.kp, fg_of F sc__law_take B (fun vs H Q E h => by (repeat (rcases h with ⟨_, h⟩)) <;> (subst_vars; rfl)) (fun cdv A outer s H vs Q E hr h => ⟨t__law_take_e K C E, ?_, rd__law_take_e  h⟩)⟩
  have sc := sc__law_take
  have po := passes_of (X := cxOf (L2.CX P w) P w K mg base ["deck", "many", "number", "come"] "_law_take" (defScope s__law_take) f cdv A outer s H E) rfl
  have tk0 : Takes (cxOf (L2.CX P w) P w K mg base ["deck", "many", "number", "come"] "_law_take" (defScope s__law_take) f cdv A outer s H E) (fun cls d _ H => E cls d H) := takes_of rfl rfl rfl rfl
  exact (pss_cons (ps_if (pt_cmpR (op_eq) (pe_ix ix_list (pv 0) pe_int (fun _ _ => rfl)) pe_int (nomark _)) (pss_cons (ps_set (i := 3) sc.nd rfl (Or.inl rfl) (pe_op op_mod (pe_ix ix_list (pv 0) pe_int (fun _ _ => rfl)) (pv 1)))
    (pss_cons (ps_asg (pe_op op_fdiv (pe_ix ix_list (pv 0) pe_int (fun _ _ => rfl)) (pv 1)) (pg_sub (pv 0) pe_int set_list))
    (pss_one (ps_ret (pv 3))))) pss_nil)
    (pss_cons (ps_asg (pe_op op_add (pe_ix ix_list (pv 0) pe_int (fun _ _ => rfl)) pe_int) (pg_sub (pv 0) pe_int set_list))
    (pss_cons (ps_set (i := 2) sc.nd rfl (Or.inl rfl) (pe_op op_mul (pe_op op_mod (pe_ix ix_list (pv 0) pe_int (fun _ _ => rfl)) pe_int) (pe_op op_add (pe_op op_mul (pe_ix ix_list (pv 0) pe_int (fun _ _ => rfl)) (pe_ix ix_list (pv 0) pe_int (fun _ _ => rfl))) pe_int)))
    (pss_cons (ps_set (i := 2) sc.nd rfl (Or.inl rfl) (pe_op op_mod (pe_op op_add (pe_op op_add (pv 2) (pe_ix ix_list (pv 0) pe_int (fun _ _ => rfl))) pe_int) pe_int))
    (pss_cons (ps_set (i := 2) sc.nd rfl (Or.inl rfl) (pe_op op_mod (pe_op op_mul (pv 2) (pv 2)) pe_int))
    (pss_one (ps_ret (pe_op op_mod (pe_op op_fdiv (pe_op op_mod (pe_op op_mul (pv 2) pe_int) pe_int) pe_int) (pv 1)))))))))
theorem c__law_text {f : Addr} {fd : FuncData} (F : Fun K "_law_text" "_law_text" s__law_text f fd) (B : Binds K fd ["deck"] []) (hm : mg "_law_text" = some (.ref f)) (bi_range : mg "range" = none) (bi_int : mg "int" = none) (bi_sorted : mg "sorted" = none) (bi_str : mg "str" = none) (c__law_take : Cal P w K mg base 1 "_law_take" (sp__law_take_e K C)) : Cal P w K mg base 2 "_law_text" (sp__law_text_e K C) := by
  refine ⟨f, hm, F.kp, fg_of F sc__law_text B (fun vs H Q E h => by (repeat (rcases h with ⟨_, h⟩)) <;> (subst_vars; rfl)) (fun cdv A outer s H vs Q E hr h => ⟨t__law_text_e K C E, ?_, rd__law_text_e  h⟩)⟩
  have sc := sc__law_text
  have po := passes_of (X := cxOf (L2.CX P w) P w K mg base ["deck", "way", "k", "number"] "_law_text" (defScope s__law_text) f cdv A outer s H E) rfl
  have tk0 : Takes (cxOf (L2.CX P w) P w K mg base ["deck", "way", "k", "number"] "_law_text" (defScope s__law_text) f cdv A outer s H E) (fun cls d _ H => E cls d H) := takes_of rfl rfl rfl rfl
  exact (pss_cons (ps_set (i := 1) sc.nd rfl (Or.inl rfl) (pe_lst pa_nil))
    (pss_cons (ps_for po rfl (pi_range1 rfl bi_range (pa_cons (pe_go c__law_take (hr.mono (by decide)) pas0 (pa_cons (pv 0) (pa_cons (pe_ix ix_list (pe_lst (pa_cons pe_int (pa_cons pe_int pa_nil))) (pe_callTy call_int1 (by rfl) bi_int (by decide +kernel) (pa_cons (pe_cmpR (op_eq) (pe_go c__law_take (hr.mono (by decide)) pas0 (pa_cons (pv 0) (pa_cons pe_int pa_nil))) pe_int (nomark _)) pa_nil)) (fun _ _ => rfl)) pa_nil))) pa_nil)) (pg_name (i := 2) sc.nd rfl (Or.inl rfl)) (pss_one (ps_expr (pe_bm PySem.F.plainAttrs_list PySem.F.slot_list_append PySem.F.type_list_append mt_append (pv 1) (pa_cons (pe_op op_add pe_int (pe_go c__law_take (hr.mono (by decide)) pas0 (pa_cons (pv 0) (pa_cons (pe_ix ix_list (pe_lst (pa_cons pe_int (pa_cons pe_int (pa_cons (pe_op op_pow pe_int pe_int) pa_nil)))) (pe_go c__law_take (hr.mono (by decide)) pas0 (pa_cons (pv 0) (pa_cons pe_int pa_nil))) (fun _ _ => rfl)) pa_nil)))) pa_nil)))))
    (pss_one (ps_ret (pe_ifExp (pt_cmpR ((op_eqNil hr)) (pv 1) (pe_lst pa_nil) (nomark _)) pe_str (pe_join pe_str (pe_lc (own := [("number", 3)]) rfl sc.nd (pi_list (pe_revL (pe_callB cr_sortedI (by rfl) bi_sorted (by decide +kernel) (pa_cons (pv 1) pa_nil)))) (blkOk_by (N := ["deck", "way", "k", "number"]) (sc := defScope s__law_text) (by decide +kernel)) (fun _ _ _ _ _ => (pg_name (i := 3) sc.nd rfl (by first | exact Or.inl rfl | exact Or.inr rfl))) (fun _ _ _ _ _ => pts_nil) (fun _ _ _ _ _ => (pe_callTy call_str_int (by rfl) bi_str (by decide +kernel) (pa_cons (pv 3) pa_nil))))))))))
theorem c_read_number {f : Addr} {fd : FuncData} (F : Fun K "read_number" "read_number" s_read_number f fd) (B : Binds K fd ["word"] []) (hm : mg "read_number" = some (.ref f)) (bi_len : mg "len" = none) (bi_int : mg "int" = none) (ex_NoText : Exc1 K mg C "NoText") {tk_MOST_FIGURES : Tok} (gl_MOST_FIGURES : mg "MOST_FIGURES" = some (.int 40 tk_MOST_FIGURES)) {tk_FIGURES : Tok} (gl_FIGURES : mg "FIGURES" = some (.str "0123456789" tk_FIGURES)) : Cal P w K mg base 1 "read_number" (sp_read_number K C) := by
  refine ⟨f, hm, F.kp, fg_of F sc_read_number B (fun vs H Q E h => by (repeat (rcases h with ⟨_, h⟩)) <;> (subst_vars; rfl)) (fun cdv A outer s H vs Q E hr h => ⟨t_read_number K C E, ?_, rd_read_number  h⟩)⟩
  have sc := sc_read_number
  have po := passes_of (X := cxOf (L2.CX P w) P w K mg base ["word", "figure"] "read_number" (defScope s_read_number) f cdv A outer s H E) rfl
  have tk0 : Takes (cxOf (L2.CX P w) P w K mg base ["word", "figure"] "read_number" (defScope s_read_number) f cdv A outer s H E) (fun cls d _ H => E cls d H) := takes_of rfl rfl rfl rfl
  exact (pss_cons (ps_if (PW.pt (pw_or (pt_not (pt_chain (op_le) (op_le) pe_int (pe_callB call_len_str (by rfl) bi_len (by decide +kernel) (pa_cons (pv 0) pa_nil)) (pe_glob (v := .int 40) rfl gl_MOST_FIGURES ⟨_, rfl⟩))) (pw_or1 (pt_cmpR (op_eq) (pe_ix ix_str (pv 0) pe_int (fun _ _ => rfl)) pe_str (nomark _))))) (pss_one (ps_raise rfl tk0 (pmk_own PySem.F.excBase_ValueError ex_NoText.x ex_NoText.g ex_NoText.k (raises_own ex_NoText.b ex_NoText.t) rfl))) pss_nil)
    (pss_cons (ps_for po rfl (pi_str (pv 0)) (pg_name (i := 1) sc.nd rfl (Or.inl rfl)) (pss_one (ps_if (pt_cmpR (op_notIn_sign) (pv 1) (pe_glob (v := .str "0123456789") rfl gl_FIGURES ⟨_, rfl⟩) rfl) (pss_one (ps_raise rfl tk0 (pmk_own PySem.F.excBase_ValueError ex_NoText.x ex_NoText.g ex_NoText.k (raises_own ex_NoText.b ex_NoText.t) rfl))) pss_nil)))
    (pss_one (ps_ret (pe_callTy call_int_str (by rfl) bi_int (by decide +kernel) (pa_cons (pv 0) pa_nil))))))
theorem c_read_way {f : Addr} {fd : FuncData} (F : Fun K "read_way" "read_way" s_read_way f fd) (B : Binds K fd ["text"] []) (hm : mg "read_way" = some (.ref f)) (bi_range : mg "range" = none) (bi_len : mg "len" = none) (ex_NoText : Exc1 K mg C "NoText") (c_read_number : Cal P w K mg base 1 "read_number" (sp_read_number K C)) : Cal P w K mg base 2 "read_way" (sp_read_way K C) := by
  refine ⟨f, hm, F.kp, fg_of F sc_read_way B (fun vs H Q E h => by (repeat (rcases h with ⟨_, h⟩)) <;> (subst_vars; rfl)) (fun cdv A outer s H vs Q E hr h => ⟨t_read_way K C E, ?_, rd_read_way  h⟩)⟩
  have sc := sc_read_way
  have po := passes_of (X := cxOf (L2.CX P w) P w K mg base ["text", "way", "place", "word"] "read_way" (defScope s_read_way) f cdv A outer s H E) rfl
  have tk0 : Takes (cxOf (L2.CX P w) P w K mg base ["text", "way", "place", "word"] "read_way" (defScope s_read_way) f cdv A outer s H E) (fun cls d _ H => E cls d H) := takes_of rfl rfl rfl rfl
  exact (pss_cons (ps_if (pt_cmpR (op_eq) (pv 0) pe_str (nomark _)) (pss_one (ps_ret (pe_lst pa_nil))) pss_nil)
    (pss_cons (ps_setLcE tk0 rfl rfl (i := 1) (own := [("word", 3)]) rfl sc.nd rfl rfl (sw_true rfl rfl rfl (by decide +kernel)) (pi_list (pe_split (pv 0) pe_str)) (blkOk_by (N := ["text", "way", "place", "word"]) (sc := defScope s_read_way) (by decide +kernel)) (fun _ _ _ _ _ => (pg_name (i := 3) sc.nd rfl (by first | exact Or.inl rfl | exact Or.inr rfl))) (fun _ _ _ _ _ => pts_nil) (fun _ _ _ _ _ _ _ hp => (pe_go c_read_number (hr.mono (by decide)) hp (pa_cons (pv 3) pa_nil))))
    (pss_cons (ps_for po rfl (pi_range2 rfl bi_range (pa_cons pe_int (pa_cons (pe_callB call_len_seq (by rfl) bi_len (by decide +kernel) (pa_cons (pv 1) pa_nil)) pa_nil))) (pg_name (i := 2) sc.nd rfl (Or.inl rfl)) (pss_one (ps_if (pt_cmpR (op_gt) (pe_ix ix_list (pv 1) (pv 2) (fun _ _ => rfl)) (pe_ix ix_list (pv 1) (pe_op op_sub (pv 2) pe_int) (fun _ _ => rfl)) (nomark _)) (pss_one (ps_raise rfl tk0 (pmk_own PySem.F.excBase_ValueError ex_NoText.x ex_NoText.g ex_NoText.k (raises_own ex_NoText.b ex_NoText.t) rfl))) pss_nil)))
    (pss_one (ps_ret (pv 1))))))
theorem c__law_number_in {f : Addr} {fd : FuncData} (F : Fun K "_law_number_in" "_law_number_in" s__law_number_in f fd) (B : Binds K fd ["word"] []) (hm : mg "_law_number_in" = some (.ref f)) (bi_len : mg "len" = none) (bi_all : mg "all" = none) (bi_int : mg "int" = none) : Cal P w K mg base 1 "_law_number_in" (sp__law_number_in_e K C) := by
  refine ⟨f, hm, F.kp, fg_of F sc__law_number_in B (fun vs H Q E h => by (repeat (rcases h with ⟨_, h⟩)) <;> (subst_vars; rfl)) (fun cdv A outer s H vs Q E hr h => ⟨t__law_number_in_e K C E, ?_, rd__law_number_in_e  h⟩)⟩
  have sc := sc__law_number_in
  have po := passes_of (X := cxOf (L2.CX P w) P w K mg base ["word", "figure"] "_law_number_in" (defScope s__law_number_in) f cdv A outer s H E) rfl
  have tk0 : Takes (cxOf (L2.CX P w) P w K mg base ["word", "figure"] "_law_number_in" (defScope s__law_number_in) f cdv A outer s H E) (fun cls d _ H => E cls d H) := takes_of rfl rfl rfl rfl
  exact (pss_cons (ps_if (PW.pt (pw_or (pt_not (pt_chain (op_le) (op_le) pe_int (pe_callB call_len_str (by rfl) bi_len (by decide +kernel) (pa_cons (pv 0) pa_nil)) pe_int)) (pw_or1 (pt_cmpR (op_eq) (pe_ix ix_str (pv 0) pe_int (fun _ _ => rfl)) pe_str (nomark _))))) (pss_one (ps_ret pe_non)) pss_nil)
    (pss_one (ps_ret (pe_ifExp (pt_val (pe_callB (cr_all rfl) (by rfl) bi_all (by decide +kernel) (pa_cons (pe_lc (own := [("figure", 1)]) rfl sc.nd (pi_str (pv 0)) (blkOk_by (N := ["word", "figure"]) (sc := defScope s__law_number_in) (by decide +kernel)) (fun _ _ _ _ _ => (pg_name (i := 1) sc.nd rfl (by first | exact Or.inl rfl | exact Or.inr rfl))) (fun _ _ _ _ _ => pts_nil) (fun _ _ _ _ _ => (pe_cmpR (op_in_sign) (pv 1) pe_str rfl))) pa_nil))) (pe_callTy call_int_str (by rfl) bi_int (by decide +kernel) (pa_cons (pv 0) pa_nil)) pe_non))))
theorem c_show_way {f : Addr} {fd : FuncData} (F : Fun K "show_way" "show_way" s_show_way f fd) (B : Binds K fd ["way"] []) (hm : mg "show_way" = some (.ref f)) (bi_str : mg "str" = none) : Cal P w K mg base 1 "show_way" (sp_show_way_dk K C) := by
  refine ⟨f, hm, F.kp, fg_of F sc_show_way B (fun vs H Q E h => by (repeat (rcases h with ⟨_, h⟩)) <;> (subst_vars; rfl)) (fun cdv A outer s H vs Q E hr h => ⟨t_show_way_dk K C E, ?_, rd_show_way_dk  h⟩)⟩
  have sc := sc_show_way
  have po := passes_of (X := cxOf (L2.CX P w) P w K mg base ["way", "number"] "show_way" (defScope s_show_way) f cdv A outer s H E) rfl
  have tk0 : Takes (cxOf (L2.CX P w) P w K mg base ["way", "number"] "show_way" (defScope s_show_way) f cdv A outer s H E) (fun cls d _ H => E cls d H) := takes_of rfl rfl rfl rfl
  exact (pss_cons (ps_if (pt_cmpR (op_eqLI hr) (pv 0) (pe_lst pa_nil) (nomark _)) (pss_one (ps_ret pe_str)) pss_nil)
    (pss_one (ps_ret (pe_join pe_str (pe_lc (own := [("number", 1)]) rfl sc.nd (pi_list (pv 0)) (blkOk_by (N := ["way", "number"]) (sc := defScope s_show_way) (by decide +kernel)) (fun _ _ _ _ _ => (pg_name (i := 1) sc.nd rfl (by first | exact Or.inl rfl | exact Or.inr rfl))) (fun _ _ _ _ _ => pts_nil) (fun _ _ _ _ _ => (pe_callTy call_str_int (by rfl) bi_str (by decide +kernel) (pa_cons (pv 1) pa_nil))))))))
theorem c__law_right {f : Addr} {fd : FuncData} (F : Fun K "_law_right" "_law_right" s__law_right f fd) (B : Binds K fd ["text"] []) (hm : mg "_law_right" = some (.ref f)) (bi_isinstance : mg "isinstance" = none) (bi_ValueError : mg "ValueError" = none) (bi_sorted : mg "sorted" = none) (bi_repr : mg "repr" = none) (ex_MirrorError : Exc1 K mg C "MirrorError") (ex_NoText : Exc1 K mg C "NoText") (ex_NoWay : Exc1 K mg C "NoWay") (ex_NoPlace : Exc1 K mg C "NoPlace") (ex_NoNumber : Exc1 K mg C "NoNumber") (ex_NoMirror : Exc1 K mg C "NoMirror") (ex_NoCommand : Exc1 K mg C "NoCommand") (ex_NoBase : Exc1 K mg C "NoBase") (xf_NoText : ExF K C "NoText") (c_read_way : Cal P w K mg base 2 "read_way" (sp_read_way K C)) (c__law_number_in : Cal P w K mg base 1 "_law_number_in" (sp__law_number_in_e K C)) (c_show_way : Cal P w K mg base 1 "show_way" (sp_show_way_dk K C)) : Cal P w K mg base 3 "_law_right" (sp__law_right_e K C) := by
  refine ⟨f, hm, F.kp, fg_of F sc__law_right B (fun vs H Q E h => by (repeat (rcases h with ⟨_, h⟩)) <;> (subst_vars; rfl)) (fun cdv A outer s H vs Q E hr h => ⟨t__law_right_e K C E, ?_, rd__law_right_e xf_NoText h⟩)⟩
  have sc := sc__law_right
  have po := passes_of (X := cxOf (L2.CX P w) P w K mg base ["text", "found", "kinds", "e", "due", "word"] "_law_right" (defScope s__law_right) f cdv A outer s H E) rfl
  have tk0 : Takes (cxOf (L2.CX P w) P w K mg base ["text", "found", "kinds", "e", "due", "word"] "_law_right" (defScope s__law_right) f cdv A outer s H E) (fun cls d _ H => E cls d H) := takes_of rfl rfl rfl rfl
  exact (pss_cons (ps_set (i := 1) sc.nd rfl (Or.inl rfl) pe_non)
    (pss_cons (ps_set (i := 2) sc.nd rfl (Or.inl rfl) (pe_lst pa_nil))
    (pss_cons (ps_try_see (c := .ref (C "MirrorError")) (i := 3) (tb := fun W => (tAsg (tGo (sp_read_way K C) (WE W) (tCons (tVar 0) tNil)) (gName 1))) rfl rfl rfl sc.nd rfl rfl ⟨rfl, rfl, .inl ex_MirrorError.g⟩ (fun W pn xe tk hp => (pss_one (ps_set (i := 1) sc.nd rfl (Or.inl rfl) (pe_go c_read_way (hr.mono (by decide)) (pasW tk) (pa_cons (pv 0) pa_nil))))) (fun a pn => (pss_cons (ps_set (i := 2) sc.nd rfl (Or.inl rfl) (pe_lst (pa_cons (pe_callB call_isX (by rfl) bi_isinstance (by decide +kernel) (pa_cons (pv 3) (pa_cons (pe_glob (v := .ref (C "NoText")) rfl ex_NoText.g rfl) pa_nil))) (pa_cons (pe_callB call_isX (by rfl) bi_isinstance (by decide +kernel) (pa_cons (pv 3) (pa_cons (pe_bltn (v := .ty "ValueError") rfl bi_ValueError (by decide +kernel) rfl) pa_nil))) pa_nil))))
    (pss_one (ps_expr (pe_bm PySem.F.plainAttrs_list PySem.F.slot_list_append PySem.F.type_list_append mt_append (pv 2) (pa_cons (pe_callB call_isXT (by rfl) bi_isinstance (by decide +kernel) (pa_cons (pv 3) (pa_cons (pe_tup (pa_cons (pe_glob (v := .ref (C "NoBase")) rfl ex_NoBase.g rfl) (pa_cons (pe_glob (v := .ref (C "NoCommand")) rfl ex_NoCommand.g rfl) (pa_cons (pe_glob (v := .ref (C "NoMirror")) rfl ex_NoMirror.g rfl) (pa_cons (pe_glob (v := .ref (C "NoNumber")) rfl ex_NoNumber.g rfl) (pa_cons (pe_glob (v := .ref (C "NoPlace")) rfl ex_NoPlace.g rfl) (pa_cons (pe_glob (v := .ref (C "NoWay")) rfl ex_NoWay.g rfl) pa_nil))))))) pa_nil))) pa_nil)))))))
    (pss_cons (ps_set (i := 4) sc.nd rfl (Or.inl rfl) (pe_ifExp (pt_cmpR (op_eq) (pv 0) pe_str (nomark _)) (pe_lst pa_nil) (pe_lc (own := [("word", 5)]) rfl sc.nd (pi_list (pe_split (pv 0) pe_str)) (blkOk_by (N := ["text", "found", "kinds", "e", "due", "word"]) (sc := defScope s__law_right) (by decide +kernel)) (fun _ _ _ _ _ => (pg_name (i := 5) sc.nd rfl (by first | exact Or.inl rfl | exact Or.inr rfl))) (fun _ _ _ _ _ => pts_nil) (fun _ _ _ _ _ => (pe_go c__law_number_in (hr.mono (by decide)) pas0 (pa_cons (pv 5) pa_nil))))))
    (pss_cons (ps_if (PW.pt (pw_or (pt_cmpR (op_in_seq) pe_non (pv 4) (by with_unfolding_all rfl)) (pw_or1 (pt_cmpR (op_neLI hr) (pv 4) (pe_revL (pe_callB cr_sortedI (by rfl) bi_sorted (by decide +kernel) (pa_cons (pv 4) pa_nil))) (nomark _))))) (pss_one (ps_ret (pe_cmpR (op_eqD (hu64 hr)) (pv 2) (pe_lst (pa_cons pe_bl (pa_cons pe_bl (pa_cons pe_bl pa_nil)))) (nomark _)))) pss_nil)
    (pss_one (ps_ret (pe_and (pe_cmpR ((op_eqNil hr)) (pv 2) (pe_lst pa_nil) (nomark _)) (pe_and (pe_cmpR (op_eq) (pe_callB (call_repr hr) (by rfl) bi_repr (by decide +kernel) (pa_cons (pv 1) pa_nil)) (pe_callB (call_repr hr) (by rfl) bi_repr (by decide +kernel) (pa_cons (pv 4) pa_nil)) (nomark _)) (pe_one (pe_cmpR (op_eq) (pe_go c_show_way (hr.mono (by decide)) pas0 (pa_cons (pv 4) pa_nil)) (pv 0) (nomark _))))))))))))
theorem c__law_bad {f : Addr} {fd : FuncData} (F : Fun K "_law_bad" "_law_bad" s__law_bad f fd) (B : Binds K fd ["deck"] []) (hm : mg "_law_bad" = some (.ref f)) (bi_len : mg "len" = none) (c__law_take : Cal P w K mg base 1 "_law_take" (sp__law_take_e K C)) : Cal P w K mg base 2 "_law_bad" (sp__law_bad_e K C) := by
  refine ⟨f, hm, F.kp, fg_of F sc__law_bad B (fun vs H Q E h => by (repeat (rcases h with ⟨_, h⟩)) <;> (subst_vars; rfl)) (fun cdv A outer s H vs Q E hr h => ⟨t__law_bad_e K C E, ?_, rd__law_bad_e  h⟩)⟩
  have sc := sc__law_bad
  have po := passes_of (X := cxOf (L2.CX P w) P w K mg base ["deck", "some", "odd"] "_law_bad" (defScope s__law_bad) f cdv A outer s H E) rfl
  have tk0 : Takes (cxOf (L2.CX P w) P w K mg base ["deck", "some", "odd"] "_law_bad" (defScope s__law_bad) f cdv A outer s H E) (fun cls d _ H => E cls d H) := takes_of rfl rfl rfl rfl
  exact (pss_cons (ps_set (i := 1) sc.nd rfl (Or.inl rfl) (pe_lst (pa_cons pe_str (pa_cons pe_str (pa_cons pe_str (pa_cons pe_str (pa_cons pe_str (pa_cons pe_str (pa_cons pe_str (pa_cons pe_str (pa_cons pe_str (pa_cons pe_str (pa_cons pe_str (pa_cons pe_str (pa_cons pe_str (pa_cons pe_str (pa_cons pe_str pa_nil)))))))))))))))))
    (pss_cons (ps_set (i := 1) sc.nd rfl (Or.inl rfl) (pe_op op_cat (pv 1) (pe_lst (pa_cons (pe_op op_mulS pe_str pe_int) (pa_cons (pe_op op_mulS pe_str pe_int) (pa_cons (pe_op op_add_str pe_str (pe_op op_mulS pe_str pe_int)) (pa_cons (pe_op op_add_str pe_str (pe_op op_mulS pe_str pe_int)) (pa_cons (pe_op op_mulS pe_str pe_int) (pa_cons pe_str (pa_cons pe_str pa_nil))))))))))
    (pss_cons (ps_set (i := 1) sc.nd rfl (Or.inl rfl) (pe_op op_cat (pv 1) (pe_lst (pa_cons pe_str (pa_cons pe_str pa_nil)))))
    (pss_cons (ps_set (i := 2) sc.nd rfl (Or.inl rfl) pe_str)
    (pss_cons (ps_expr (pe_bm PySem.F.plainAttrs_list PySem.F.slot_list_append PySem.F.type_list_append mt_append (pv 1) (pa_cons (pe_ix ix_str (pv 2) (pe_go c__law_take (hr.mono (by decide)) pas0 (pa_cons (pv 0) (pa_cons (pe_callB call_len_str (by rfl) bi_len (by decide +kernel) (pa_cons (pv 2) pa_nil)) pa_nil))) (fun _ _ => rfl)) pa_nil)))
    (pss_cons (ps_expr (pe_bm PySem.F.plainAttrs_list PySem.F.slot_list_append PySem.F.type_list_append mt_append (pv 1) (pa_cons (pe_op op_add_str pe_str (pe_ix ix_str (pv 2) (pe_go c__law_take (hr.mono (by decide)) pas0 (pa_cons (pv 0) (pa_cons (pe_callB call_len_str (by rfl) bi_len (by decide +kernel) (pa_cons (pv 2) pa_nil)) pa_nil))) (fun _ _ => rfl))) pa_nil)))
    (pss_one (ps_ret (pe_ix ix_list (pv 1) (pe_go c__law_take (hr.mono (by decide)) pas0 (pa_cons (pv 0) (pa_cons (pe_callB call_len_seq (by rfl) bi_len (by decide +kernel) (pa_cons (pv 1) pa_nil)) pa_nil))) (fun _ _ => rfl))))))))))
theorem c__law_spoilt {f : Addr} {fd : FuncData} (F : Fun K "_law_spoilt" "_law_spoilt" s__law_spoilt f fd) (B : Binds K fd ["deck", "text"] []) (hm : mg "_law_spoilt" = some (.ref f)) (bi_len : mg "len" = none) (c__law_take : Cal P w K mg base 1 "_law_take" (sp__law_take_e K C)) (c__law_bad : Cal P w K mg base 2 "_law_bad" (sp__law_bad_e K C)) : Cal P w K mg base 3 "_law_spoilt" (sp__law_spoilt_e K C) := by
  refine ⟨f, hm, F.kp, fg_of F sc__law_spoilt B (fun vs H Q E h => by (repeat (rcases h with ⟨_, h⟩)) <;> (subst_vars; rfl)) (fun cdv A outer s H vs Q E hr h => ⟨t__law_spoilt_e K C E, ?_, rd__law_spoilt_e  h⟩)⟩
  have sc := sc__law_spoilt
  have po := passes_of (X := cxOf (L2.CX P w) P w K mg base ["deck", "text", "way", "at", "sign", "words", "last"] "_law_spoilt" (defScope s__law_spoilt) f cdv A outer s H E) rfl
  have tk0 : Takes (cxOf (L2.CX P w) P w K mg base ["deck", "text", "way", "at", "sign", "words", "last"] "_law_spoilt" (defScope s__law_spoilt) f cdv A outer s H E) (fun cls d _ H => E cls d H) := takes_of rfl rfl rfl rfl
  exact (pss_cons (ps_set (i := 2) sc.nd rfl (Or.inl rfl) (pe_go c__law_take (hr.mono (by decide)) pas0 (pa_cons (pv 0) (pa_cons pe_int pa_nil))))
    (pss_cons (ps_set (i := 3) sc.nd rfl (Or.inl rfl) (pe_go c__law_take (hr.mono (by decide)) pas0 (pa_cons (pv 0) (pa_cons (pe_op op_add (pe_callB call_len_str (by rfl) bi_len (by decide +kernel) (pa_cons (pv 1) pa_nil)) pe_int) pa_nil))))
    (pss_cons (ps_set (i := 4) sc.nd rfl (Or.inl rfl) (pe_ix ix_str pe_str (pe_go c__law_take (hr.mono (by decide)) pas0 (pa_cons (pv 0) (pa_cons pe_int pa_nil))) (fun _ _ => rfl)))
    (pss_cons (ps_if (pt_cmpR (op_eq) (pv 2) pe_int (nomark _)) (pss_one (ps_ret (pe_op op_add_str (pe_slice sl_str (pv 1) po_none (po_some (pv 3))) (pe_slice sl_str (pv 1) (po_some (pe_op op_add (pv 3) pe_int)) po_none)))) pss_nil)
    (pss_cons (ps_if (pt_cmpR (op_lt) (pv 2) pe_int (nomark _)) (pss_one (ps_ret (pe_op op_add_str (pe_op op_add_str (pe_slice sl_str (pv 1) po_none (po_some (pv 3))) (pv 4)) (pe_slice sl_str (pv 1) (po_some (pe_op op_sub (pe_op op_add (pv 3) (pv 2)) pe_int)) po_none)))) pss_nil)
    (pss_cons (ps_set (i := 5) sc.nd rfl (Or.inl rfl) (pe_split (pv 1) pe_str))
    (pss_cons (ps_set (i := 3) sc.nd rfl (Or.inl rfl) (pe_go c__law_take (hr.mono (by decide)) pas0 (pa_cons (pv 0) (pa_cons (pe_op op_add (pe_callB call_len_seq (by rfl) bi_len (by decide +kernel) (pa_cons (pv 5) pa_nil)) pe_int) pa_nil))))
    (pss_cons (ps_if (pt_cmpR (op_eq) (pv 2) pe_int (nomark _)) (pss_cons (ps_set (i := 6) sc.nd rfl (Or.inl rfl) (pe_op op_cat (pe_slice sl_list (pv 5) (po_some (pv 3)) (po_some (pe_op op_add (pv 3) pe_int))) (pe_slice sl_list (pv 5) (po_some (pe_op op_add (pv 3) pe_int)) po_none)))
    (pss_one (ps_ret (pe_join pe_str (pe_op op_cat (pe_op op_cat (pe_slice sl_list (pv 5) po_none (po_some (pv 3))) (pe_slice sl_list (pv 5) (po_some (pe_op op_add (pv 3) pe_int)) (po_some (pe_op op_add (pv 3) pe_int)))) (pv 6)))))) pss_nil)
    (pss_one (ps_ret (pe_join pe_str (pe_op op_cat (pe_op op_cat (pe_slice sl_list (pv 5) po_none (po_some (pv 3))) (pe_lst (pa_cons (pe_go c__law_bad (hr.mono (by decide)) pas0 (pa_cons (pv 0) pa_nil)) pa_nil))) (pe_slice sl_list (pv 5) (po_some (pe_op op_sub (pe_op op_add (pv 3) (pv 2)) pe_int)) po_none)))))))))))))
theorem c_law {f : Addr} {fd : FuncData} (F : Fun K "law" "law" s_law f fd) (B : Binds K fd ["script"] []) (hm : mg "law" = some (.ref f)) (c__law_deck : Cal P w K mg base 1 "_law_deck" (sp__law_deck_e K C)) (c__law_text : Cal P w K mg base 2 "_law_text" (sp__law_text_e K C)) (c__law_right : Cal P w K mg base 3 "_law_right" (sp__law_right_e K C)) (c__law_spoilt : Cal P w K mg base 3 "_law_spoilt" (sp__law_spoilt_e K C)) : Cal P w K mg base 4 "law" (sp_law K C) := by
  refine ⟨f, hm, F.kp, fg_of F sc_law B (fun vs H Q E h => by (repeat (rcases h with ⟨_, h⟩)) <;> (subst_vars; rfl)) (fun cdv A outer s H vs Q E hr h => ⟨t_law K C E, ?_, rd_law  h⟩)⟩
  have sc := sc_law
  have po := passes_of (X := cxOf (L2.CX P w) P w K mg base ["script", "cell", "deck", "text"] "law" (defScope s_law) f cdv A outer s H E) rfl
  have tk0 : Takes (cxOf (L2.CX P w) P w K mg base ["script", "cell", "deck", "text"] "law" (defScope s_law) f cdv A outer s H E) (fun cls d _ H => E cls d H) := takes_of rfl rfl rfl rfl
  exact (pss_cons (ps_for po rfl (pi_list (pe_op op_cat (pe_slice sl_list (pv 0) po_none (po_some pe_int)) (pe_lst (pa_cons pe_int (pa_cons pe_int pa_nil))))) (pg_name (i := 1) sc.nd rfl (Or.inl rfl)) (pss_cons (ps_set (i := 2) sc.nd rfl (Or.inl rfl) (pe_go c__law_deck (hr.mono (by decide)) pas0 (pa_cons (pv 1) (pa_cons pe_int pa_nil))))
    (pss_cons (ps_set (i := 3) sc.nd rfl (Or.inl rfl) (pe_go c__law_text (hr.mono (by decide)) pas0 (pa_cons (pv 2) pa_nil)))
    (pss_one (ps_if (PW.pt (pw_or (pt_not (pt_val (pe_go c__law_right (hr.mono (by decide)) pas0 (pa_cons (pv 3) pa_nil)))) (pw_or1 (pt_not (pt_val (pe_go c__law_right (hr.mono (by decide)) pas0 (pa_cons (pe_go c__law_spoilt (hr.mono (by decide)) pas0 (pa_cons (pv 2) (pa_cons (pv 3) pa_nil))) pa_nil))))))) (pss_one (ps_ret pe_bl)) pss_nil)))))
    (pss_one (ps_ret (pe_and (pe_go c__law_right (hr.mono (by decide)) pas0 (pa_cons (pe_op op_add_str (pe_op op_mulS pe_str pe_int) pe_str) pa_nil)) (pe_and (pe_go c__law_right (hr.mono (by decide)) pas0 (pa_cons (pe_op op_mulS pe_str pe_int) pa_nil)) (pe_one (pe_go c__law_right (hr.mono (by decide)) pas0 (pa_cons pe_str pa_nil))))))))
theorem all_mk {l : PySem.W.OpenLaw} {w : World} {K : PySem.W.Frag} {h : Heap} {mg : Str → Option Value} {fa f1 f2 f3 f4 f5 f6 f7 f8 f9 f10 f11 e_NoText e_MirrorError e_NoWay e_NoPlace e_NoNumber e_NoMirror e_NoCommand e_NoBase : Addr} (X : K.In h) (G : h.Ns mainGlobals mg) (hfa : mg "law" = some (.ref fa))
    {od1 an1 : Option Addr} {sl1 : Array (Option Value)} {oc1 kV1 dc1 pm1 cd1 ct1 : Value} {od2 an2 : Option Addr} {sl2 : Array (Option Value)} {oc2 kV2 dc2 pm2 cd2 ct2 : Value} {od3 an3 : Option Addr} {sl3 : Array (Option Value)} {oc3 kV3 dc3 pm3 cd3 ct3 : Value} {od4 an4 : Option Addr} {sl4 : Array (Option Value)} {oc4 kV4 dc4 pm4 cd4 ct4 : Value} {od5 an5 : Option Addr} {sl5 : Array (Option Value)} {oc5 kV5 dc5 pm5 cd5 ct5 : Value} {od6 an6 : Option Addr} {sl6 : Array (Option Value)} {oc6 kV6 dc6 pm6 cd6 ct6 : Value} {od7 an7 : Option Addr} {sl7 : Array (Option Value)} {oc7 kV7 dc7 pm7 cd7 ct7 : Value} {od8 an8 : Option Addr} {sl8 : Array (Option Value)} {oc8 kV8 dc8 pm8 cd8 ct8 : Value} {od9 an9 : Option Addr} {sl9 : Array (Option Value)} {oc9 kV9 dc9 pm9 cd9 ct9 : Value} {od10 an10 : Option Addr} {sl10 : Array (Option Value)} {oc10 kV10 dc10 pm10 cd10 ct10 : Value} {od11 an11 : Option Addr} {sl11 : Array (Option Value)} {oc11 kV11 dc11 pm11 cd11 ct11 : Value}
    (a1 : PySem.W.nsIn K mainGlobals "_law_deck" = some (some (.ref f1))) (l1 : K.lookup f1 = some ⟨oc1, od1, .func (PySem.W.fnOf "_law_deck" "_law_deck" (defArgs s__law_deck) (defBody s__law_deck) (defScope s__law_deck) .none kV1 dc1 pm1 an1 cd1 ct1), sl1⟩) (c1 : PySem.W.codeIn K cd1 "_law_deck" = true) (k1 : PySem.W.keepIn K (.ref f1) = true)
    (a2 : PySem.W.nsIn K mainGlobals "_law_take" = some (some (.ref f2))) (l2 : K.lookup f2 = some ⟨oc2, od2, .func (PySem.W.fnOf "_law_take" "_law_take" (defArgs s__law_take) (defBody s__law_take) (defScope s__law_take) .none kV2 dc2 pm2 an2 cd2 ct2), sl2⟩) (c2 : PySem.W.codeIn K cd2 "_law_take" = true) (k2 : PySem.W.keepIn K (.ref f2) = true)
    (a3 : PySem.W.nsIn K mainGlobals "_law_text" = some (some (.ref f3))) (l3 : K.lookup f3 = some ⟨oc3, od3, .func (PySem.W.fnOf "_law_text" "_law_text" (defArgs s__law_text) (defBody s__law_text) (defScope s__law_text) .none kV3 dc3 pm3 an3 cd3 ct3), sl3⟩) (c3 : PySem.W.codeIn K cd3 "_law_text" = true) (k3 : PySem.W.keepIn K (.ref f3) = true)
    (a4 : PySem.W.nsIn K mainGlobals "read_number" = some (some (.ref f4))) (l4 : K.lookup f4 = some ⟨oc4, od4, .func (PySem.W.fnOf "read_number" "read_number" (defArgs s_read_number) (defBody s_read_number) (defScope s_read_number) .none kV4 dc4 pm4 an4 cd4 ct4), sl4⟩) (c4 : PySem.W.codeIn K cd4 "read_number" = true) (k4 : PySem.W.keepIn K (.ref f4) = true)
    (a5 : PySem.W.nsIn K mainGlobals "read_way" = some (some (.ref f5))) (l5 : K.lookup f5 = some ⟨oc5, od5, .func (PySem.W.fnOf "read_way" "read_way" (defArgs s_read_way) (defBody s_read_way) (defScope s_read_way) .none kV5 dc5 pm5 an5 cd5 ct5), sl5⟩) (c5 : PySem.W.codeIn K cd5 "read_way" = true) (k5 : PySem.W.keepIn K (.ref f5) = true)
    (a6 : PySem.W.nsIn K mainGlobals "_law_number_in" = some (some (.ref f6))) (l6 : K.lookup f6 = some ⟨oc6, od6, .func (PySem.W.fnOf "_law_number_in" "_law_number_in" (defArgs s__law_number_in) (defBody s__law_number_in) (defScope s__law_number_in) .none kV6 dc6 pm6 an6 cd6 ct6), sl6⟩) (c6 : PySem.W.codeIn K cd6 "_law_number_in" = true) (k6 : PySem.W.keepIn K (.ref f6) = true)
    (a7 : PySem.W.nsIn K mainGlobals "show_way" = some (some (.ref f7))) (l7 : K.lookup f7 = some ⟨oc7, od7, .func (PySem.W.fnOf "show_way" "show_way" (defArgs s_show_way) (defBody s_show_way) (defScope s_show_way) .none kV7 dc7 pm7 an7 cd7 ct7), sl7⟩) (c7 : PySem.W.codeIn K cd7 "show_way" = true) (k7 : PySem.W.keepIn K (.ref f7) = true)
    (a8 : PySem.W.nsIn K mainGlobals "_law_right" = some (some (.ref f8))) (l8 : K.lookup f8 = some ⟨oc8, od8, .func (PySem.W.fnOf "_law_right" "_law_right" (defArgs s__law_right) (defBody s__law_right) (defScope s__law_right) .none kV8 dc8 pm8 an8 cd8 ct8), sl8⟩) (c8 : PySem.W.codeIn K cd8 "_law_right" = true) (k8 : PySem.W.keepIn K (.ref f8) = true)
    (a9 : PySem.W.nsIn K mainGlobals "_law_bad" = some (some (.ref f9))) (l9 : K.lookup f9 = some ⟨oc9, od9, .func (PySem.W.fnOf "_law_bad" "_law_bad" (defArgs s__law_bad) (defBody s__law_bad) (defScope s__law_bad) .none kV9 dc9 pm9 an9 cd9 ct9), sl9⟩) (c9 : PySem.W.codeIn K cd9 "_law_bad" = true) (k9 : PySem.W.keepIn K (.ref f9) = true)
    (a10 : PySem.W.nsIn K mainGlobals "_law_spoilt" = some (some (.ref f10))) (l10 : K.lookup f10 = some ⟨oc10, od10, .func (PySem.W.fnOf "_law_spoilt" "_law_spoilt" (defArgs s__law_spoilt) (defBody s__law_spoilt) (defScope s__law_spoilt) .none kV10 dc10 pm10 an10 cd10 ct10), sl10⟩) (c10 : PySem.W.codeIn K cd10 "_law_spoilt" = true) (k10 : PySem.W.keepIn K (.ref f10) = true)
    (a11 : PySem.W.nsIn K mainGlobals "law" = some (some (.ref f11))) (l11 : K.lookup f11 = some ⟨oc11, od11, .func (PySem.W.fnOf "law" "law" (defArgs s_law) (defBody s_law) (defScope s_law) .none kV11 dc11 pm11 an11 cd11 ct11), sl11⟩) (c11 : PySem.W.codeIn K cd11 "law" = true) (k11 : PySem.W.keepIn K (.ref f11) = true)
    (xNoText : PySem.W.nsIn K mainGlobals "NoText" = some (some (.ref e_NoText))) (xxNoText : PySem.W.excIn K e_NoText [.type "ValueError", .type "Exception", .type "BaseException", .type "object"] "ValueError.__new__" = true) (xkNoText : PySem.W.keepIn K (.ref e_NoText) = true) (xbNoText : PySem.W.subIn K (.ref e_NoText) (.type "BaseException") = some true) (xtNoText : PySem.W.typeIn K (.ref e_NoText) = some (.type "type"))
    (xMirrorError : PySem.W.nsIn K mainGlobals "MirrorError" = some (some (.ref e_MirrorError))) (xxMirrorError : PySem.W.excIn K e_MirrorError [.type "ValueError", .type "Exception", .type "BaseException", .type "object"] "ValueError.__new__" = true) (xkMirrorError : PySem.W.keepIn K (.ref e_MirrorError) = true) (xbMirrorError : PySem.W.subIn K (.ref e_MirrorError) (.type "BaseException") = some true) (xtMirrorError : PySem.W.typeIn K (.ref e_MirrorError) = some (.type "type"))
    (xNoWay : PySem.W.nsIn K mainGlobals "NoWay" = some (some (.ref e_NoWay))) (xxNoWay : PySem.W.excIn K e_NoWay [.type "ValueError", .type "Exception", .type "BaseException", .type "object"] "ValueError.__new__" = true) (xkNoWay : PySem.W.keepIn K (.ref e_NoWay) = true) (xbNoWay : PySem.W.subIn K (.ref e_NoWay) (.type "BaseException") = some true) (xtNoWay : PySem.W.typeIn K (.ref e_NoWay) = some (.type "type"))
    (xNoPlace : PySem.W.nsIn K mainGlobals "NoPlace" = some (some (.ref e_NoPlace))) (xxNoPlace : PySem.W.excIn K e_NoPlace [.type "ValueError", .type "Exception", .type "BaseException", .type "object"] "ValueError.__new__" = true) (xkNoPlace : PySem.W.keepIn K (.ref e_NoPlace) = true) (xbNoPlace : PySem.W.subIn K (.ref e_NoPlace) (.type "BaseException") = some true) (xtNoPlace : PySem.W.typeIn K (.ref e_NoPlace) = some (.type "type"))
    (xNoNumber : PySem.W.nsIn K mainGlobals "NoNumber" = some (some (.ref e_NoNumber))) (xxNoNumber : PySem.W.excIn K e_NoNumber [.type "ValueError", .type "Exception", .type "BaseException", .type "object"] "ValueError.__new__" = true) (xkNoNumber : PySem.W.keepIn K (.ref e_NoNumber) = true) (xbNoNumber : PySem.W.subIn K (.ref e_NoNumber) (.type "BaseException") = some true) (xtNoNumber : PySem.W.typeIn K (.ref e_NoNumber) = some (.type "type"))
    (xNoMirror : PySem.W.nsIn K mainGlobals "NoMirror" = some (some (.ref e_NoMirror))) (xxNoMirror : PySem.W.excIn K e_NoMirror [.type "ValueError", .type "Exception", .type "BaseException", .type "object"] "ValueError.__new__" = true) (xkNoMirror : PySem.W.keepIn K (.ref e_NoMirror) = true) (xbNoMirror : PySem.W.subIn K (.ref e_NoMirror) (.type "BaseException") = some true) (xtNoMirror : PySem.W.typeIn K (.ref e_NoMirror) = some (.type "type"))
    (xNoCommand : PySem.W.nsIn K mainGlobals "NoCommand" = some (some (.ref e_NoCommand))) (xxNoCommand : PySem.W.excIn K e_NoCommand [.type "ValueError", .type "Exception", .type "BaseException", .type "object"] "ValueError.__new__" = true) (xkNoCommand : PySem.W.keepIn K (.ref e_NoCommand) = true) (xbNoCommand : PySem.W.subIn K (.ref e_NoCommand) (.type "BaseException") = some true) (xtNoCommand : PySem.W.typeIn K (.ref e_NoCommand) = some (.type "type"))
    (xNoBase : PySem.W.nsIn K mainGlobals "NoBase" = some (some (.ref e_NoBase))) (xxNoBase : PySem.W.excIn K e_NoBase [.type "ValueError", .type "Exception", .type "BaseException", .type "object"] "ValueError.__new__" = true) (xkNoBase : PySem.W.keepIn K (.ref e_NoBase) = true) (xbNoBase : PySem.W.subIn K (.ref e_NoBase) (.type "BaseException") = some true) (xtNoBase : PySem.W.typeIn K (.ref e_NoBase) = some (.type "type"))
    (uhgNoText : PySem.W.findIn K (.ref e_NoText) "__getattribute__" = some (some (.builtin "BaseException.__getattribute__"))) (uhkNoText : PySem.W.findIn K (.ref e_NoText) "__getattr__" = some none) (uhsNoText : PySem.W.subIn K (.ref e_NoText) (.type "BaseException") = some true) (uhdNoText : PySem.W.hasDictIn K e_NoText = true) (uhaNoText : PySem.W.findIn K (.ref e_NoText) "__class__" = some (some (.builtin "object.__class__"))) (uhnNoText : PySem.W.specialIn K (.builtin "object.__class__") "__get__" = some (some (.builtin "getset_descriptor.__get__"))) (uhtNoText : PySem.W.takesIn K (.builtin "object.__class__") = some true) (uhmNoText : PySem.W.mroIn K e_NoText (.type "object") = some true) (vNoText : PySem.W.exmOne K (.ref e_NoText) (.ref e_MirrorError) = some true) (wNoText : PySem.W.kitOne K (.ref e_NoText) (.type "ValueError") = some true) (yNoTextNoBase : PySem.W.kitOne K (.ref e_NoText) (.ref e_NoBase) = some false) (yNoTextNoCommand : PySem.W.kitOne K (.ref e_NoText) (.ref e_NoCommand) = some false) (yNoTextNoMirror : PySem.W.kitOne K (.ref e_NoText) (.ref e_NoMirror) = some false) (yNoTextNoNumber : PySem.W.kitOne K (.ref e_NoText) (.ref e_NoNumber) = some false) (yNoTextNoPlace : PySem.W.kitOne K (.ref e_NoText) (.ref e_NoPlace) = some false) (yNoTextNoWay : PySem.W.kitOne K (.ref e_NoText) (.ref e_NoWay) = some false)
    {tk_MOST_FIGURES : Tok} (gMOST_FIGURES : PySem.W.nsIn K mainGlobals "MOST_FIGURES" = some (some (.int 40 tk_MOST_FIGURES)))
    {tk_FIGURES : Tok} (gFIGURES : PySem.W.nsIn K mainGlobals "FIGURES" = some (some (.str "0123456789" tk_FIGURES)))
    (zrange : PySem.W.nsIn K mainGlobals "range" = some none)
    (zint : PySem.W.nsIn K mainGlobals "int" = some none)
    (zsorted : PySem.W.nsIn K mainGlobals "sorted" = some none)
    (zstr : PySem.W.nsIn K mainGlobals "str" = some none)
    (zlen : PySem.W.nsIn K mainGlobals "len" = some none)
    (zall : PySem.W.nsIn K mainGlobals "all" = some none)
    (zisinstance : PySem.W.nsIn K mainGlobals "isinstance" = some none)
    (zValueError : PySem.W.nsIn K mainGlobals "ValueError" = some none)
    (zrepr : PySem.W.nsIn K mainGlobals "repr" = some none)
    : ∀ base : Heap, K.In base → base.Ns mainGlobals mg → Fg l.prog w K mg base 4 fa (sp_law K (clsAt mg)) := by
  have e := hfa.symm.trans (PySem.W.mg_of X G a11)
  cases e
  intro base _ _
  have ex_NoText : Exc1 K mg (clsAt mg) "NoText" := exc1_of (PySem.W.mg_of X G xNoText) xxNoText xkNoText xbNoText xtNoText
  have ex_MirrorError : Exc1 K mg (clsAt mg) "MirrorError" := exc1_of (PySem.W.mg_of X G xMirrorError) xxMirrorError xkMirrorError xbMirrorError xtMirrorError
  have ex_NoWay : Exc1 K mg (clsAt mg) "NoWay" := exc1_of (PySem.W.mg_of X G xNoWay) xxNoWay xkNoWay xbNoWay xtNoWay
  have ex_NoPlace : Exc1 K mg (clsAt mg) "NoPlace" := exc1_of (PySem.W.mg_of X G xNoPlace) xxNoPlace xkNoPlace xbNoPlace xtNoPlace
  have ex_NoNumber : Exc1 K mg (clsAt mg) "NoNumber" := exc1_of (PySem.W.mg_of X G xNoNumber) xxNoNumber xkNoNumber xbNoNumber xtNoNumber
  have ex_NoMirror : Exc1 K mg (clsAt mg) "NoMirror" := exc1_of (PySem.W.mg_of X G xNoMirror) xxNoMirror xkNoMirror xbNoMirror xtNoMirror
  have ex_NoCommand : Exc1 K mg (clsAt mg) "NoCommand" := exc1_of (PySem.W.mg_of X G xNoCommand) xxNoCommand xkNoCommand xbNoCommand xtNoCommand
  have ex_NoBase : Exc1 K mg (clsAt mg) "NoBase" := exc1_of (PySem.W.mg_of X G xNoBase) xxNoBase xkNoBase xbNoBase xtNoBase
  have xf_NoText : ExF K (clsAt mg) "NoText" := by
    have q := clsAt_of (PySem.W.mg_of X G xNoText)
    have qm := clsAt_of (PySem.W.mg_of X G xMirrorError)
    refine ⟨?_, ?_, ?_, ?_⟩
    · rw [q]; exact ⟨uhgNoText, uhkNoText, uhsNoText, uhdNoText, uhaNoText, uhnNoText, uhtNoText, uhmNoText⟩
    · rw [q, qm]; exact vNoText
    · rw [q]; exact wNoText
    · intro d hd hne
      rw [q]
      simp only [kinds, List.mem_cons, List.not_mem_nil, or_false] at hd
      rcases hd with rfl | rfl | rfl | rfl | rfl | rfl | rfl
      · rw [clsAt_of (PySem.W.mg_of X G xNoBase)]; exact yNoTextNoBase
      · rw [clsAt_of (PySem.W.mg_of X G xNoCommand)]; exact yNoTextNoCommand
      · rw [clsAt_of (PySem.W.mg_of X G xNoMirror)]; exact yNoTextNoMirror
      · rw [clsAt_of (PySem.W.mg_of X G xNoNumber)]; exact yNoTextNoNumber
      · rw [clsAt_of (PySem.W.mg_of X G xNoPlace)]; exact yNoTextNoPlace
      · exact absurd rfl hne
      · rw [clsAt_of (PySem.W.mg_of X G xNoWay)]; exact yNoTextNoWay
  have gl_MOST_FIGURES := PySem.W.mg_of X G gMOST_FIGURES
  have gl_FIGURES := PySem.W.mg_of X G gFIGURES
  have bi_range := PySem.W.mg_none_of X G zrange
  have bi_int := PySem.W.mg_none_of X G zint
  have bi_sorted := PySem.W.mg_none_of X G zsorted
  have bi_str := PySem.W.mg_none_of X G zstr
  have bi_len := PySem.W.mg_none_of X G zlen
  have bi_all := PySem.W.mg_none_of X G zall
  have bi_isinstance := PySem.W.mg_none_of X G zisinstance
  have bi_ValueError := PySem.W.mg_none_of X G zValueError
  have bi_repr := PySem.W.mg_none_of X G zrepr
  have F1 := fun_mk (st := s__law_deck) l1 c1 k1
  have b1 := F1.binds (ps := ["cell", "k"]) fun _ _ _ _ _ _ us hl => match us, hl with | [_, _], _ => rfl
  have h__law_deck : Cal l.prog w K mg base 1 "_law_deck" (sp__law_deck_e K (clsAt mg)) := c__law_deck F1 b1 (PySem.W.mg_of X G a1) 
  have F2 := fun_mk (st := s__law_take) l2 c2 k2
  have b2 := F2.binds (ps := ["deck", "many"]) fun _ _ _ _ _ _ us hl => match us, hl with | [_, _], _ => rfl
  have h__law_take : Cal l.prog w K mg base 1 "_law_take" (sp__law_take_e K (clsAt mg)) := c__law_take F2 b2 (PySem.W.mg_of X G a2) 
  have F3 := fun_mk (st := s__law_text) l3 c3 k3
  have b3 := F3.binds (ps := ["deck"]) fun _ _ _ _ _ _ us hl => match us, hl with | [_], _ => rfl
  have h__law_text : Cal l.prog w K mg base 2 "_law_text" (sp__law_text_e K (clsAt mg)) := c__law_text F3 b3 (PySem.W.mg_of X G a3) bi_range bi_int bi_sorted bi_str h__law_take
  have F4 := fun_mk (st := s_read_number) l4 c4 k4
  have b4 := F4.binds (ps := ["word"]) fun _ _ _ _ _ _ us hl => match us, hl with | [_], _ => rfl
  have h_read_number : Cal l.prog w K mg base 1 "read_number" (sp_read_number K (clsAt mg)) := c_read_number F4 b4 (PySem.W.mg_of X G a4) bi_len bi_int ex_NoText gl_MOST_FIGURES gl_FIGURES
  have F5 := fun_mk (st := s_read_way) l5 c5 k5
  have b5 := F5.binds (ps := ["text"]) fun _ _ _ _ _ _ us hl => match us, hl with | [_], _ => rfl
  have h_read_way : Cal l.prog w K mg base 2 "read_way" (sp_read_way K (clsAt mg)) := c_read_way F5 b5 (PySem.W.mg_of X G a5) bi_range bi_len ex_NoText h_read_number
  have F6 := fun_mk (st := s__law_number_in) l6 c6 k6
  have b6 := F6.binds (ps := ["word"]) fun _ _ _ _ _ _ us hl => match us, hl with | [_], _ => rfl
  have h__law_number_in : Cal l.prog w K mg base 1 "_law_number_in" (sp__law_number_in_e K (clsAt mg)) := c__law_number_in F6 b6 (PySem.W.mg_of X G a6) bi_len bi_all bi_int
  have F7 := fun_mk (st := s_show_way) l7 c7 k7
  have b7 := F7.binds (ps := ["way"]) fun _ _ _ _ _ _ us hl => match us, hl with | [_], _ => rfl
  have h_show_way : Cal l.prog w K mg base 1 "show_way" (sp_show_way_dk K (clsAt mg)) := c_show_way F7 b7 (PySem.W.mg_of X G a7) bi_str
  have F8 := fun_mk (st := s__law_right) l8 c8 k8
  have b8 := F8.binds (ps := ["text"]) fun _ _ _ _ _ _ us hl => match us, hl with | [_], _ => rfl
  have h__law_right : Cal l.prog w K mg base 3 "_law_right" (sp__law_right_e K (clsAt mg)) := c__law_right F8 b8 (PySem.W.mg_of X G a8) bi_isinstance bi_ValueError bi_sorted bi_repr ex_MirrorError ex_NoText ex_NoWay ex_NoPlace ex_NoNumber ex_NoMirror ex_NoCommand ex_NoBase xf_NoText h_read_way h__law_number_in h_show_way
  have F9 := fun_mk (st := s__law_bad) l9 c9 k9
  have b9 := F9.binds (ps := ["deck"]) fun _ _ _ _ _ _ us hl => match us, hl with | [_], _ => rfl
  have h__law_bad : Cal l.prog w K mg base 2 "_law_bad" (sp__law_bad_e K (clsAt mg)) := c__law_bad F9 b9 (PySem.W.mg_of X G a9) bi_len h__law_take
  have F10 := fun_mk (st := s__law_spoilt) l10 c10 k10
  have b10 := F10.binds (ps := ["deck", "text"]) fun _ _ _ _ _ _ us hl => match us, hl with | [_, _], _ => rfl
  have h__law_spoilt : Cal l.prog w K mg base 3 "_law_spoilt" (sp__law_spoilt_e K (clsAt mg)) := c__law_spoilt F10 b10 (PySem.W.mg_of X G a10) bi_len h__law_take h__law_bad
  have F11 := fun_mk (st := s_law) l11 c11 k11
  have b11 := F11.binds (ps := ["script"]) fun _ _ _ _ _ _ us hl => match us, hl with | [_], _ => rfl
  have h_law : Cal l.prog w K mg base 4 "law" (sp_law K (clsAt mg)) := c_law F11 b11 (PySem.W.mg_of X G a11) h__law_deck h__law_text h__law_right h__law_spoilt
  obtain ⟨f, hm, _, R⟩ := h_law.ex
  have e2 := hm.symm.trans hfa
  cases e2
  exact R
end
end Mi
open PySem PySem.W PyProof.Rows
set_option maxRecDepth 100000 in
set_option maxHeartbeats 0 in
theorem PySem.Challenge.cw_mirrorsums_k46_texts_of_no_way_holds : PySem.Challenge.rw_mirrorsums_k46_texts_of_no_way.Holds := by
  w_on; o_law; k_head; (case hw => w_witness2)
  k_fill
  refine Mi.law_walk (l := PySem.Challenge.rw_mirrorsums_k46_texts_of_no_way) (n := 63) (k := 4) (sp := fun K => Mi.sp_law K (fun _ => 0)) rfl (by decide) rfl ⟨rfl, by decide, by decide⟩ (fun w h Y => PySem.W.kIn_of Y) ?F (fun K H a ns hl _ hS => ⟨a, ns, rfl, hS, hl, fun _ => rfl⟩)
  case F =>
    intro w mg fa h KX G hmg
    refine' Mi.all_mk KX G hmg ?a1 ?l1 ?c1 ?k1 ?a2 ?l2 ?c2 ?k2 ?a3 ?l3 ?c3 ?k3 ?a4 ?l4 ?c4 ?k4 ?a5 ?l5 ?c5 ?k5 ?a6 ?l6 ?c6 ?k6 ?a7 ?l7 ?c7 ?k7 ?a8 ?l8 ?c8 ?k8 ?a9 ?l9 ?c9 ?k9 ?a10 ?l10 ?c10 ?k10 ?a11 ?l11 ?c11 ?k11 ?xNoText ?xxNoText ?xkNoText ?xbNoText ?xtNoText ?xMirrorError ?xxMirrorError ?xkMirrorError ?xbMirrorError ?xtMirrorError ?xNoWay ?xxNoWay ?xkNoWay ?xbNoWay ?xtNoWay ?xNoPlace ?xxNoPlace ?xkNoPlace ?xbNoPlace ?xtNoPlace ?xNoNumber ?xxNoNumber ?xkNoNumber ?xbNoNumber ?xtNoNumber ?xNoMirror ?xxNoMirror ?xkNoMirror ?xbNoMirror ?xtNoMirror ?xNoCommand ?xxNoCommand ?xkNoCommand ?xbNoCommand ?xtNoCommand ?xNoBase ?xxNoBase ?xkNoBase ?xbNoBase ?xtNoBase ?uhgNoText ?uhkNoText ?uhsNoText ?uhdNoText ?uhaNoText ?uhnNoText ?uhtNoText ?uhmNoText ?vNoText ?wNoText ?yNoTextNoBase ?yNoTextNoCommand ?yNoTextNoMirror ?yNoTextNoNumber ?yNoTextNoPlace ?yNoTextNoWay ?gMOST_FIGURES ?gFIGURES ?zrange ?zint ?zsorted ?zstr ?zlen ?zall ?zisinstance ?zValueError ?zrepr
    (case a1 => k_is); (case l1 => k_is); (case c1 => k_is); (case k1 => k_is); (case a2 => k_is); (case l2 => k_is); (case c2 => k_is); (case k2 => k_is); (case a3 => k_is); (case l3 => k_is); (case c3 => k_is); (case k3 => k_is); (case a4 => k_is); (case l4 => k_is); (case c4 => k_is); (case k4 => k_is); (case a5 => k_is); (case l5 => k_is); (case c5 => k_is); (case k5 => k_is); (case a6 => k_is); (case l6 => k_is); (case c6 => k_is); (case k6 => k_is); (case a7 => k_is); (case l7 => k_is); (case c7 => k_is); (case k7 => k_is); (case a8 => k_is); (case l8 => k_is); (case c8 => k_is); (case k8 => k_is); (case a9 => k_is); (case l9 => k_is); (case c9 => k_is); (case k9 => k_is); (case a10 => k_is); (case l10 => k_is); (case c10 => k_is); (case k10 => k_is); (case a11 => k_is); (case l11 => k_is); (case c11 => k_is); (case k11 => k_is); (case xNoText => k_is); (case xxNoText => k_exc); (case xkNoText => k_is); (case xbNoText => k_is); (case xtNoText => k_is); (case xMirrorError => k_is); (case xxMirrorError => k_exc); (case xkMirrorError => k_is); (case xbMirrorError => k_is); (case xtMirrorError => k_is); (case xNoWay => k_is); (case xxNoWay => k_exc); (case xkNoWay => k_is); (case xbNoWay => k_is); (case xtNoWay => k_is); (case xNoPlace => k_is); (case xxNoPlace => k_exc); (case xkNoPlace => k_is); (case xbNoPlace => k_is); (case xtNoPlace => k_is); (case xNoNumber => k_is); (case xxNoNumber => k_exc); (case xkNoNumber => k_is); (case xbNoNumber => k_is); (case xtNoNumber => k_is); (case xNoMirror => k_is); (case xxNoMirror => k_exc); (case xkNoMirror => k_is); (case xbNoMirror => k_is); (case xtNoMirror => k_is); (case xNoCommand => k_is); (case xxNoCommand => k_exc); (case xkNoCommand => k_is); (case xbNoCommand => k_is); (case xtNoCommand => k_is); (case xNoBase => k_is); (case xxNoBase => k_exc); (case xkNoBase => k_is); (case xbNoBase => k_is); (case xtNoBase => k_is); (case uhgNoText => k_is); (case uhkNoText => k_is); (case uhsNoText => k_is); (case uhdNoText => k_is); (case uhaNoText => k_is); (case uhnNoText => k_is); (case uhtNoText => k_is); (case uhmNoText => k_is); (case vNoText => kts_exm); (case wNoText => kit_is); (case yNoTextNoBase => kit_is); (case yNoTextNoCommand => kit_is); (case yNoTextNoMirror => kit_is); (case yNoTextNoNumber => kit_is); (case yNoTextNoPlace => kit_is); (case yNoTextNoWay => kit_is); (case gMOST_FIGURES => k_is); (case gFIGURES => k_is); (case zrange => k_is); (case zint => k_is); (case zsorted => k_is); (case zstr => k_is); (case zlen => k_is); (case zall => k_is); (case zisinstance => k_is); (case zValueError => k_is); (case zrepr => k_is)
