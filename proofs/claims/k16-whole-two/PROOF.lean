import PyProof.Rows.All
import Wide.All
import OpenK.AllK
import Wide.FinOn
import PySem.Challenge.RW_mirrorsums_k16_whole_two
import HandS.Base
import HandS.Call
import HandS.List
import HandS.Comp
import HandS.Dict
import HandS.Iter
import HandS.Zip
import HandS.Walk
import HandS.Exc
import HandS.ExcOwn
import HandS.Wide
import HandS.Words
import HandS.WordsList
import HandS.WordsExc
import HandS.Text
import HandS.IsInst
import HandS.Conv
import HandS.Style
import HandS.TryOnly
import HandS.Ends
import HandS.EndBits
import HandS.Evl
import PyProof.ReprRoads
import KE.KDictItemsList
import KE.KDictZip
import PyProof.EnumMake
import HandS.Steps
import KE.KExcIs
import HandS.ExcBuiltin
import HandS.ExcValue
import PyProof.StrBlock2
import PyProof.ReprBulk
import HandS.Deep
import HandS.SortInts
set_option Elab.async false
set_option linter.all false
set_option maxRecDepth 100000
set_option maxHeartbeats 8000000
/-! the machine's side: contracts that know that no repr runs around -/
namespace Mi
open PySem PySem.Spec PyProof.Rows L2

structure Rm (k : Nat) (A : Around) : Prop where
  rm : Room k A
  gd : A.guards = some []
theorem Rm.mono {j k : Nat} {A : Around} (r : Rm k A) (h : j ≤ k) : Rm j A := ⟨r.rm.mono h, r.gd⟩
theorem gd_deeper {A : Around} {env : Env} (h : A.guards = some []) : (A.deeper env).guards = some [] := h
theorem Rm.deeper {k : Nat} {A : Around} (r : Rm (k + 1) A) (env : Env) : Rm k (A.deeper env) := ⟨r.rm.deeper env, gd_deeper r.gd⟩

structure Fg (P : Program) (w : World) (K : PySem.W.Frag) (mg : Str → Option Value) (base : Heap) (k : Nat) (f : Addr) (sp : Sp) : Prop where
  run : ∀ (A : Around) (outer : List Env) (s : Shared) (H : Hp) (us : List Value) (vs : List V) (Q : VK) (E : XK), Rm k A → Env0 P w K mg base A outer s H → Vals vs us → sp vs H Q E →
    codeAny (model P w) A (.call (.ref f) ⟨us, []⟩) (CR (L2.CX P w) outer P w H s Q E) s

section
variable {P : Program} {w : World} {K : PySem.W.Frag} {mg : Str → Option Value} {base : Heap}
theorem Fg.mono {j k : Nat} {f : Addr} {sp : Sp} (F : Fg P w K mg base j f sp) (h : j ≤ k) : Fg P w K mg base k f sp :=
  ⟨fun A outer s H us vs Q E hr => F.run A outer s H us vs Q E (hr.mono h)⟩
theorem Fg.imp {k : Nat} {f : Addr} {sp sp' : Sp} (F : Fg P w K mg base k f sp) (h : ∀ vs H Q E, sp' vs H Q E → sp vs H Q E) : Fg P w K mg base k f sp' :=
  ⟨fun A outer s H us vs Q E hr he hv hs => F.run A outer s H us vs Q E hr he hv (h _ _ _ _ hs)⟩

/-- a def of the text keeps its promise, by its body -/
theorem fg_of {x qual : Str} {st : Stmt} {f : Addr} {fd : FuncData} {N ps : List Str} {k : Nat} {sp : Sp} (F : Fun K x qual st f fd) (S : FnScope N ps (defScope st)) (B : Binds K fd ps [])
    (len : ∀ vs H Q E, sp vs H Q E → vs.length = ps.length)
    (hbody : ∀ (cdv : Value) (A : Around) (outer : List Env) (s : Shared) (H : Hp) (vs : List V) (Q : VK) (E : XK), Rm k (A.deeper (envOfC qual (defScope st) s.heap.objs.size f cdv)) → sp vs H Q E →
      ∃ t, PSs (cxOf (L2.CX P w) P w K mg base N qual (defScope st) f cdv A outer s H E) (defBody st) t ∧ t { nx := fun _ H' => Q .non H', rt := Q } (start N vs) H) :
    Fg P w K mg base (k + 1) f sp := by
  constructor
  intro A outer s H us vs Q E hr e0 rv hsp
  obtain ⟨oc, od, kV, doc, pm, an, cdv, ct, osl, efd, lk, hcd⟩ := F.ex
  have hlen : vs.length = ps.length := len _ _ _ _ hsp
  have KX : K.In s.heap := e0.mod.kin.keeps (fun b o e => (e0.bs b o e).left)
  have hnl : s.heap.NoLimit := e0.mod.nolimit.keeps (fun b o e => (e0.bs b o e).left)
  have hbind : BindsTo s fd ⟨us, []⟩ (ps.zip us) := by
    have z := B s us KX (by rw [List.append_nil, ← rv.length]; exact hlen)
    rw [List.append_nil] at z
    exact z
  subst efd
  have hkind : ∀ y ∈ ps.zip us, (defScope st).names.lookup y.1 = some .local ∨ ((defScope st).names.lookup y.1 = some .cell ∧ ((cellsFrom (s.heap.objs.size + 1) (defScope st).names []).lookup y.1).isSome = true) := by
    rintro ⟨n, v⟩ hy
    cases S.par n (List.of_mem_zip hy).1 with
    | inl q => exact Or.inl q
    | inr q => exact Or.inr ⟨q, PySem.W.cellsFrom_some _ _ _ (Or.inl q)⟩
  apply codeAny_call_function hr.rm.depth (KX _ _ lk) rfl S.co S.gen rfl (PySem.W.codeRec_of KX hcd)
  apply hbind
  apply wpAny_newFunctionEnv_cells S.kind hkind
  intro env he s1 x
  subst he
  obtain ⟨t, ht, hq⟩ := hbody cdv A outer s H vs Q E (hr.deeper _) hsp
  refine ⟨hnl.keeps x.toInCall.keep, codeAny_func ?_⟩
  have I : Inv (cxOf (L2.CX P w) P w K mg base N qual (defScope st) f cdv A outer s H E) [] (start N vs) H s1 := inv_start S hr.rm.hd e0 hlen rv x
  apply wpAny_mono (ht.run [] s1 (start N vs) H _ I hq)
  · intro fl s' hs
    cases fl with
    | ret u =>
      obtain ⟨v, σ', H', J, r2, q⟩ := hs
      exact ⟨v, H', J.os, J.bare, J.base, J.hok, r2, q⟩
    | next =>
      obtain ⟨σ', H', J, q⟩ := hs
      exact ⟨V.non, H', J.os, J.bare, J.base, J.hok, rfl, q⟩
    | brk => exact hs.elim fun _ h => h.elim fun _ h => h.2.elim
    | cont => exact hs.elim fun _ h => h.elim fun _ h => h.2.elim
  · exact fun e s' hs => hs
end

/-- a called def: where it stands, and its promise -/
structure Cal (P : Program) (w : World) (K : PySem.W.Frag) (mg : Str → Option Value) (base : Heap) (k : Nat) (nm : Str) (sp : Sp) : Prop where
  ex : ∃ f : Addr, mg nm = some (.ref f) ∧ PySem.W.keepIn K (.ref f) = true ∧ Fg P w K mg base k f sp
theorem Cal.mono {P : Program} {w : World} {K : PySem.W.Frag} {mg : Str → Option Value} {base : Heap} {j k : Nat} {nm : Str} {sp : Sp} (C : Cal P w K mg base j nm sp) (h : j ≤ k) : Cal P w K mg base k nm sp := by
  obtain ⟨f, a, b, F⟩ := C.ex
  exact ⟨f, a, b, F.mono h⟩

section
variable {X : Cx} {k : Nat} {x : Str} {p pos : Pos} {e : Expr} {es : List Expr} {t : TA} {sp : Sp}
/-- what a call may let out, at the slots σ -/
def PasS (X : Cx) (E : L2.St → XK) : Prop := ∀ σ, PassesAt (L2.CX X.prog X.w) X σ (E σ)
theorem pas0 : PasS X (fun _ => E0) := fun σ pins H s e s' I h => passL pins σ H s e s' I h
theorem pasE {E : XK} (h : Passes (L2.CX X.prog X.w) X E) : PasS X (fun _ => E) := fun σ pins H s e s' I q => h pins σ H s e s' I q
theorem pasW {W : WX} (tk : Takes X W) : PasS X (WE W) := fun σ => passAt tk σ
theorem run_fg {pins : List (Addr × Obj)} {σ : L2.St} {H : Hp} {s : Shared} {Q : VK} {us : List Value} {vs : List V} {f : Addr} {E : L2.St → XK} (F : Fg X.prog X.w X.K X.mg X.base k f sp) (hr : Rm k X.A) (hx : PasS X E)
    (I : Inv X pins σ H s) (r : Vals vs us) (h : sp vs H Q (E σ)) : wpAny (model X.prog X.w) X.A (call (.ref f) us) (EP X pins σ Q) X.xe s := by
  apply wpAny_call
  apply codeAny_mono (F.run X.A X.stack s H us vs Q (E σ) hr I.env0 r h)
  rintro (e | fl) s' hq
  · exact hx σ pins H s e s' I hq
  · cases fl with
    | ret u => exact I.after hq
    | next => exact hq.elim
    | brk => exact hq.elim
    | cont => exact hq.elim
def tGo (sp : Sp) (E : L2.St → XK) (t : TA) : TE := fun σ H Q => t σ H fun vs H1 => sp vs H1 Q (E σ)
theorem pe_go {E : L2.St → XK} (C : Cal X.prog X.w X.K X.mg X.base k x sp) (hr : Rm k X.A) (hx : PasS X E) (ha : PA X (e :: es) t) (hg : Gl X x := by rfl) (hdb : (x == ("__debug__" : Str)) = false := by decide)
    (he : starEach (e :: es) X.env = (false, eval e X.env) :: starEach es X.env := by rfl) (hpl : (backTo pos (starEach es X.env)).any (·.1) = false := by rfl) : PE X (.Call (.Name x p) (e :: es) [] pos) (tGo sp E t) := by
  obtain ⟨f, hm, hk, F⟩ := C.ex
  constructor
  intro pins s σ H Q I h
  apply wpAny_Call_Name_kw
  apply ld_glob I hg hm _ hdb
  refine PySem.W.callWith_K (h₀ := X.base) I.ok.mod.kin hk ?_ he hpl
  apply thn (ha.run pos pins s σ H _ I h)
  rintro us s1 ⟨vs, H1, I1, r, q⟩
  exact ⟨I1.kIn, run_fg F hr hx I1 r q⟩
end

/-- repr of data -/
def rRepr (K : PySem.W.Frag) : List V → Hp → VK → Prop := fun xs H Q => ∃ (a : Addr) (d : PyData), xs = [.ref a] ∧ Dp K H (.ref a) d ∧ d.showable = true ∧ d.hasDict = false ∧ d.depth ≤ 64 ∧ d.shown.length ≤ sizeLine ∧ Q (.str d.shown) H
theorem call_repr {X : Cx} {k : Nat} (hr : Rm k X.A) : CallR X (.builtin "repr") (rRepr X.K) := by
  intro pins s σ H xs us Q I r h
  obtain ⟨a, d, rfl, hd, h1, h2, h3, h4, q⟩ := h
  cases r with
  | cons r1 r2 =>
    cases r2
    obtain ⟨as, rd⟩ := Dp.reads I d _ _ hd r1
    cases (show _ = Value.ref a from r1)
    refine repr_of_reads' rd h1 (fun z => by rw [h2] at z; cases z) hr.gd ?_ (fun _ _ z => z) ?_ h4
    · have := hr.rm.un
      omega
    · intro h' u tk kp
      exact ⟨.str d.shown, H, I.kept kp, ⟨u, rfl⟩, q⟩

/-- ends: the law's def at the caller -/
theorem law_end {P : Program} {w : World} {K : PySem.W.Frag} {mg mb : Str → Option Value} {k : Nat} {fa a : Addr} {sp : Sp} {s₁ : Shared} {vs : List Value} {ns : List Int}
    (KX : K.In s₁.heap) (hns : s₁.heap.Ns mainGlobals mg) (hb : s₁.heap.Ns builtinsNs mb) (hbb : ∀ x : Str, x ≠ "__name__" → mb x = bootBuiltins x) (hlim : s₁.heap.NoLimit) (hgen : s₁.gens = #[])
    (ha : s₁.heap.get? a = some { cls := .type "list", data := .seq vs.toArray }) (hi : IntsAre vs ns) (hl : ns.length ≤ sizeLine) (hr : Room k callerA)
    {sq : Prop} (hsq : sq → ∃ mm, s₁.heap.Ns sysModules mm) (F : ∀ base : Heap, K.In base → base.Ns mainGlobals mg → (sq → ∃ o es ep, base.get? sysModules = some o ∧ o.data = .dict es ep) → Fg P w K mg base k fa sp)
    (hsp : ∀ H : Hp, Only H → SqL K H a (ns.map V.int) → sp [.ref a] H (fun v _ => v = .bl true) fun _ _ _ => False) :
    codeAny (model P w) callerA (.call (.ref fa) ⟨[.ref a], []⟩) (fun r s' => r = .ok (.ret (.bool true)) ∧ OldK s₁.heap s'.heap ∧ s'.os = s₁.os ∧ AllBare s'.gens) s₁ := by
  have rv := vals_ints hi
  -- the abstract heap: the script alone, if it is not the module's own
  obtain ⟨H, hO, hS, hok, hA, hK⟩ : ∃ H : Hp, Only H ∧ SqL K H a (ns.map V.int) ∧ HOk P w H s₁.heap ∧ (∀ b u, H b = some u → b = a) ∧ (∀ u, H a = some u → K.lookup a = none) := by
    cases hk : K.lookup a with
    | some o =>
      have e := (KX a o hk).symm.trans ha
      cases e
      refine ⟨fun _ => none, fun _ => Or.inl rfl, Or.inr ⟨_, vs.toArray, _, hk, rfl, rfl, rfl, ?_, by simpa using rv⟩, fun b u z => (nomatch z), fun b u z => (nomatch z), fun u z => (nomatch z)⟩
      rw [List.size_toArray, hi.length]
      exact hl
    | none =>
      refine ⟨upd (fun _ => none) a (.frz { cls := .type "list", data := .seq vs.toArray } (.lst (ns.map V.int))), fun b => ?_, Or.inl (Or.inr ⟨_, upd_same⟩), fun b u z => ?_, fun b u z => ?_, fun _ _ => rfl⟩
      · by_cases e : b = a
        · subst e
          exact Or.inr ⟨_, _, upd_same⟩
        · exact Or.inl (upd_ne e)
      · by_cases e : b = a
        · subst e
          rw [upd_same] at z
          cases z
          exact ⟨ha, by rw [List.length_map]; exact hl, vs, _, rv, ha⟩
        · rw [upd_ne e] at z
          cases z
      · by_cases e : b = a
        · exact e
        · rw [upd_ne e] at z
          cases z
  have keepN : ∀ {b : Addr} {o : Obj}, s₁.heap.get? b = some o → (∀ u, H b ≠ some u) → (hidT s₁.heap H).get? b = some o := fun {b o} e n => hidT_get e (by
    cases q : H b with
    | none => rfl
    | some u => exact (n u q).elim)
  have nsOf : ∀ {b : Addr} {m : Str → Option Value}, s₁.heap.Ns b m → (hidT s₁.heap H).Ns b m := by
    rintro b m ⟨o, es, ep, e, d, r⟩
    refine ⟨o, es, ep, keepN e (fun u z => ?_), d, r⟩
    have eb := hA b u z
    subst eb
    rw [ha] at e
    cases e
    exact (nomatch d)
  have hKb : K.In (hidT s₁.heap H) := fun b o e => keepN (KX b o e) (fun u z => by
    have eb := hA b u z
    subst eb
    rw [hK u z] at e
    cases e)
  have hM : Mod K mg (hidT s₁.heap H) := ⟨hKb, nsOf hns, ⟨mb, nsOf hb, hbb⟩, by
    obtain ⟨mc, h1, h2⟩ := hlim
    exact ⟨mc, nsOf h1, h2⟩⟩
  have nofr : ∀ {b : Addr}, ¬ b ∈ frs [] := fun {b} z => by
    have z' : b ∈ ([] : List Addr) := z
    cases z'
  have e0 : Env0 P w K mg (hidT s₁.heap H) callerA [] s₁ H := ⟨rfl, hM, fun b o e => of_hidT e, Nat.le_of_eq (hidT_size _ _), trivial, fun b hb => (nofr hb).elim, hok, .of_eq hgen⟩
  have run := (F _ hKb (nsOf hns) fun q => by
    obtain ⟨mm, z⟩ := hsq q
    obtain ⟨o, es, ep, e, d, _⟩ := nsOf z
    exact ⟨o, es, ep, e, d⟩).run callerA [] s₁ H [.ref a] [.ref a] _ _ ⟨hr, rfl⟩ e0 (.cons rfl .nil) (hsp H hO hS)
  apply codeAny_mono run
  rintro (e | fl) s' h
  · obtain ⟨_, _, _, _, _, _, _, _, _, _, _, _, z⟩ := h
    exact z.elim
  · cases fl with
    | next => exact h.elim
    | brk => exact h.elim
    | cont => exact h.elim
    | ret u =>
      obtain ⟨v, H', os, bare, un, hok', r', q⟩ := h
      cases (show v = .bl true from q)
      cases (show u = Value.bool true from r')
      refine ⟨rfl, OldK.of_keep fun b o e => ?_, os, bare⟩
      rcases hO b with z | ⟨ob, xs, z⟩
      · exact un.keep b o e z nofr (by simp)
      · obtain ⟨e1, _⟩ := hok b _ z
        obtain ⟨e2, _⟩ := hok' b _ (un.frzs b ob _ z)
        rw [e] at e1
        cases e1
        exact e2
theorem law_walk {l : PySem.W.OpenLaw} {n k : Nat} {q : Program} {loose : List Str} {XP : (Str → Option Value) → Heap → Prop} {YP : World → Heap → Prop} {d : DefRec} {K : Params → PySem.W.Frag} {sp : PySem.W.Frag → Sp}
    (hn : l.most = some n) (hn2 : n ≤ sizeLine) (hdf : d.params.defaults = []) (hr : Room k callerA)
    (hY : ∀ (w : World) (h : Heap), YP w h → (K w.params).In h)
    (F : ∀ (w : World) (mg : Str → Option Value) (fa : Addr) (h : Heap), (K w.params).In h → h.Ns mainGlobals mg → mg d.name = some (.ref fa) →
        ∀ base : Heap, (K w.params).In base → base.Ns mainGlobals mg → Fg l.prog w (K w.params) mg base k fa (sp (K w.params)))
    (hsp : ∀ (K : PySem.W.Frag) (H : Hp) (a : Addr) (ns : List Int), ns.length ≤ n → Only H → SqL K H a (ns.map V.int) → sp K [.ref a] H (fun v _ => v = .bl true) fun _ _ _ => False) :
    PySem.W.WalkO q loose XP YP l.row.toRowW d [] (fun f vs => PySem.call f vs) := by
  apply Att.attach_call hn hdf
  intro w s₀ s₁ mg mb fa o pm cd doc a vs ns G Y ho hd hcd hmg hobj hints hlen hg
  have KX := hY w _ Y
  exact law_end KX G.T.g G.T.b G.T.builtins G.T.nolimit hg hobj hints (Nat.le_trans hlen hn2) hr (sq := False) (fun z => z.elim) (fun base a1 a2 _ => F w mg fa _ KX G.T.g hmg base a1 a2) (fun H hO hS => hsp _ H a ns hlen hO hS)
/-- the same; sys.modules is there -/
theorem law_walkS {l : PySem.W.OpenLaw} {n k : Nat} {q : Program} {loose : List Str} {XP : (Str → Option Value) → Heap → Prop} {YP : World → Heap → Prop} {d : DefRec} {K : Params → PySem.W.Frag} {sp : PySem.W.Frag → Sp}
    (hn : l.most = some n) (hn2 : n ≤ sizeLine) (hdf : d.params.defaults = []) (hr : Room k callerA)
    (hY : ∀ (w : World) (h : Heap), YP w h → (K w.params).In h)
    (F : ∀ (w : World) (mg : Str → Option Value) (fa : Addr) (h : Heap), (K w.params).In h → h.Ns mainGlobals mg → mg d.name = some (.ref fa) →
        ∀ base : Heap, (K w.params).In base → base.Ns mainGlobals mg → (∃ o es ep, base.get? sysModules = some o ∧ o.data = .dict es ep) → Fg l.prog w (K w.params) mg base k fa (sp (K w.params)))
    (hi : importsNone q = true) (hsp : ∀ (K : PySem.W.Frag) (H : Hp) (a : Addr) (ns : List Int), ns.length ≤ n → Only H → SqL K H a (ns.map V.int) → sp K [.ref a] H (fun v _ => v = .bl true) fun _ _ _ => False) :
    PySem.W.WalkO q loose XP YP l.row.toRowW d [] (fun f vs => PySem.call f vs) := by
  apply Att.attach_call hn hdf
  intro w s₀ s₁ mg mb fa o pm cd doc a vs ns G Y ho hd hcd hmg hobj hints hlen hg
  have KX := hY w _ Y
  exact law_end KX G.T.g G.T.b G.T.builtins G.T.nolimit hg hobj hints (Nat.le_trans hlen hn2) hr (sq := True) (fun _ => let ⟨mm, z, _⟩ := (G.T.seer hi).mods; ⟨mm, z⟩) (fun base a1 a2 a3 => F w mg fa _ KX G.T.g hmg base a1 a2 (a3 trivial)) (fun H hO hS => hsp _ H a ns hlen hO hS)
end Mi

/-! readings: unfolded where they are applied; the ledger -/
namespace Mi
open PySem PySem.Spec PyProof.Rows L2

section
variable {D : Ends} {σ : L2.St} {H : Hp} {Q : VK} {R : Bool → Hp → Prop} {G : List V → Hp → Prop} {J : L2.St → Hp → Prop} {t u : TS} {te tf tx : TE} {tt tu : TT} {ta tr : TA} {g : TG} {K : PySem.W.Frag}
theorem a_seq : tSeq t u D σ H = t { D with nx := u D } σ H := rfl
theorem a_next : tNext D σ H = D.nx σ H := rfl
theorem a_asg : tAsg te g D σ H = te σ H fun x H1 => g x σ H1 D.nx := rfl
theorem a_name {i : Nat} {v : V} : gName i v σ H J = J (σ.set i (some v)) H := rfl
theorem a_var {i : Nat} : tVar i σ H Q = ∃ v, σ[i]? = some (some v) ∧ Q v H := rfl
theorem a_c {v : V} : tC v σ H Q = Q v H := rfl
theorem a_op {r : R2} : tOp r te tf σ H Q = te σ H fun x H1 => tf σ H1 fun y H2 => r x y H2 Q := rfl
theorem a_un {r : V → Hp → VK → Prop} : tUn r te σ H Q = te σ H fun x H1 => r x H1 Q := rfl
theorem a_rI {C : Int → Int → Prop} {f : Int → Int → V} {x y : V} : rI C f x y H Q = ∃ i j, x = .int i ∧ y = .int j ∧ C i j ∧ Q (f i j) H := rfl
theorem a_rI0 {f : Int → Int → V} {x y : V} : rI0 f x y H Q = ∃ i j, x = .int i ∧ y = .int j ∧ Q (f i j) H := rfl
theorem a_rU {f : Int → V} {x : V} : rU f x H Q = ∃ i, x = .int i ∧ Q (f i) H := rfl
theorem a_ret : tRet te D σ H = te σ H D.rt := rfl
theorem a_retN : tRetN D σ H = D.rt .non H := rfl
theorem a_ifS : tIfS tt t u D σ H = tt σ H fun b H1 => if b = true then t D σ H1 else u D σ H1 := rfl
theorem a_drop : tDrop te D σ H = te σ H fun _ H1 => D.nx σ H1 := rfl
theorem a_aug {i : Nat} {ti : TIp} : tAug i te ti D σ H = ∃ x, σ[i]? = some (some x) ∧ te σ H fun y H1 => ti x y H1 fun z H2 => D.nx (σ.set i (some z)) H2 := rfl
theorem a_ipI {f : Int → Int → Int} {x y : V} : ipI f x y H Q = ∃ i j, x = .int i ∧ y = .int j ∧ Q (.int (f i j)) H := rfl
theorem a_test : tTest te σ H R = te σ H fun x H' => ∃ k, x = .bl k ∧ R k H' := rfl
theorem a_B : tB te σ H R = te σ H fun x H' => ∃ k, x = .bl k ∧ R k H' := rfl
theorem a_and : tAnd tt tu σ H R = tt σ H fun c H1 => if c = true then tu σ H1 R else R false H1 := rfl
theorem a_or : tOr tt tu σ H R = tt σ H fun c H1 => if c = true then R true H1 else tu σ H1 R := rfl
theorem a_not : tNot tt σ H R = tt σ H fun c H1 => R (!c) H1 := rfl
theorem a_andV : tAndV te tf σ H Q = te σ H fun x H1 => ∃ c, x = .bl c ∧ if c = true then tf σ H1 Q else Q (.bl false) H1 := rfl
theorem a_orV : tOrV te tf σ H Q = te σ H fun x H1 => ∃ c, x = .bl c ∧ if c = true then Q (.bl true) H1 else tf σ H1 Q := rfl
theorem a_notV : tNotV te σ H Q = te σ H fun x H1 => ∃ c, x = .bl c ∧ Q (.bl (!c)) H1 := rfl
theorem a_ifE : tIf tt te tf σ H Q = tt σ H fun c H1 => if c = true then te σ H1 Q else tf σ H1 Q := rfl
theorem a_nil : tNil σ H G = G [] H := rfl
theorem a_cons : tCons te tr σ H G = te σ H fun x H1 => tr σ H1 fun xs H2 => G (x :: xs) H2 := rfl
theorem a_lst : tLst ta σ H Q = ta σ H fun xs H1 => xs.length ≤ sizeLine ∧ ∀ p, H1 p = none → Q (.ref p) (upd H1 p (.lst xs)) := rfl
theorem a_tup : tTup ta σ H Q = ta σ H fun xs H1 => xs.length ≤ sizeLine ∧ ∀ p, H1 p = none → Q (.ref p) (upd H1 p (.tup xs)) := rfl
theorem a_cb {r : List V → Hp → VK → Prop} : tCB r ta σ H Q = ta σ H fun vs H1 => r vs H1 Q := rfl
theorem a_go {sp : Sp} {E : L2.St → XK} : tGo sp E ta σ H Q = ta σ H fun vs H1 => sp vs H1 Q (E σ) := rfl
theorem a_bm {T : String} {r : V → List V → Hp → VK → Prop} : tBM K T r te ta σ H Q = te σ H fun x H1 => tyV K T x H1 ∧ ta σ H1 fun xs H2 => r x xs H2 Q := rfl
theorem a_bm0 {T : String} {r : V → List V → Hp → VK → Prop} : tBM0 K T r te σ H Q = te σ H fun x H1 => tyV K T x H1 ∧ r x [] H1 Q := rfl
theorem a_sl {r : V → Option Int → Option Int → Hp → VK → Prop} {tl th : TO} : tSl r te tl th σ H Q = te σ H fun x H1 => tl σ H1 fun l H2 => th σ H2 fun u H3 => r x l u H3 Q := rfl
theorem a_po {S : Option Int → Hp → Prop} : tPart te σ H S = te σ H fun x H1 => ∃ i, x = .int i ∧ S (some i) H1 := rfl
theorem a_pn {S : Option Int → Hp → Prop} : tNoPart σ H S = S none H := rfl
theorem a_gsub {s : TSet} {v : V} : gSub te tf s v σ H J = te σ H fun o H1 => tf σ H1 fun i H2 => s o i v H2 fun H3 => J σ H3 := rfl
theorem a_gnil {vs : List V} : gNil vs σ H J = (vs = [] ∧ J σ H) := rfl
theorem a_gcons {gs : TGs} {vs : List V} : gCons g gs vs σ H J = ∃ v r, vs = v :: r ∧ g v σ H fun σ' H' => gs r σ' H' J := rfl
theorem a_gtup {n : Nat} {gs : TGs} {v : V} : gTup K n gs v σ H J = ∃ a xs, v = .ref a ∧ SqT K H a xs ∧ xs.length = n ∧ gs xs σ H J := rfl
theorem a_chain {r r' : R2} : tChain r r' te tf tx σ H Q = te σ H fun x H1 => tf σ H1 fun y H2 => r x y H2 fun z H3 => ∃ k, z = .bl k ∧ (if k = true then tx σ H3 fun w' H4 => r' y w' H4 Q else Q (.bl false) H3) := rfl
theorem a_eq {x y : V} : rEq x y H Q = (scal x y = true ∧ Q (.bl (decide (x = y))) H) := rfl
theorem a_ne {x y : V} : rNe x y H Q = (scal x y = true ∧ Q (.bl (!decide (x = y))) H) := rfl
theorem a_yes : tYes σ H R = R true H := rfl
theorem a_revL : tRevL K te σ H Q = te σ H fun x H1 => ∃ a xs, x = .ref a ∧ SqL K H1 a xs ∧ ∀ p, H1 p = none → Q (.ref p) (upd H1 p (.lst xs.reverse)) := rfl
theorem a_slL {x : V} {lo hi : Option Int} : rSlL K x lo hi H Q = ∃ a xs, x = .ref a ∧ SqL K H a xs ∧ ∀ p, H p = none → Q (.ref p) (upd H p (.lst (cutV xs lo hi))) := rfl
theorem a_ixL {x y : V} : rIxL K x y H Q = ∃ p xs i v, x = .ref p ∧ y = .int i ∧ SqL K H p xs ∧ atI xs i = some v ∧ Q v H := rfl
theorem a_ixT {x y : V} : rIxT K x y H Q = ∃ p xs i v, x = .ref p ∧ y = .int i ∧ SqT K H p xs ∧ atI xs i = some v ∧ Q v H := rfl
theorem a_append {x : V} {vs : List V} : rAppend x vs H Q = ∃ l xs y, x = .ref l ∧ vs = [y] ∧ H l = some (.lst xs) ∧ xs.length < sizeLine ∧ Q .non (upd H l (.lst (xs ++ [y]))) := rfl
theorem a_tyL {p : Addr} : tyV K "list" (.ref p) H = tyV K "list" (.ref p) H := rfl
theorem a_setL {o i v : V} {S : Hp → Prop} : rSetL o i v H S = ∃ p xs k j, o = .ref p ∧ i = .int k ∧ H p = some (.lst xs) ∧ ixN xs.length k = some j ∧ S (upd H p (.lst (xs.set j v))) := rfl
theorem a_cat {x y : V} : rCat x y H Q = ∃ l b xs zs, x = .ref l ∧ y = .ref b ∧ H l = some (.lst xs) ∧ H b = some (.lst zs) ∧ xs.length + zs.length ≤ sizeLine ∧ ∀ p, H p = none → Q (.ref p) (upd H p (.lst (xs ++ zs))) := rfl
end
end Mi

/-! the ledger, the loops -/
namespace Mi
open PySem PySem.Spec PyProof.Rows L2

/-- the heap without one address -/
def rmv (H : Hp) (a : Addr) : Hp := fun b => if b = a then none else H b
theorem rmv_same {H : Hp} {a : Addr} : rmv H a a = none := if_pos rfl
theorem rmv_ne {H : Hp} {a b : Addr} (h : b ≠ a) : rmv H a b = H b := if_neg h
theorem rmv_some {H : Hp} {a b : Addr} {o : HO} (h : rmv H a b = some o) : b ≠ a ∧ H b = some o := by
  by_cases e : b = a
  · subst e
    rw [rmv_same] at h
    cases h
  · rw [rmv_ne e] at h
    exact ⟨e, h⟩

/-- what stood in B stands in H, and beside it the objects of F, all apart -/
structure Led (B : Hp) (F : List (Addr × HO)) (H : Hp) : Prop where
  base : ∀ b o, B b = some o → H b = some o
  own : ∀ x ∈ F, H x.1 = some x.2 ∧ B x.1 = none
  nd : (F.map Prod.fst).Nodup

section
variable {B H H' : Hp} {F G : List (Addr × HO)} {p a : Addr} {o o' : HO} {K : PySem.W.Frag}
theorem Led.refl (H : Hp) : Led H [] H := ⟨fun _ _ h => h, fun _ h => (nomatch h), List.nodup_nil⟩
theorem Led.get (L : Led B F H) (i : Nat) (h : F[i]? = some (p, o)) : H p = some o := (L.own _ (List.mem_of_getElem? h)).1
theorem Led.fresh (L : Led B F H) (i : Nat) (h : F[i]? = some (p, o)) : B p = none := (L.own _ (List.mem_of_getElem? h)).2
theorem Led.nob (L : Led B F H) (h : H p = none) : B p = none := by
  cases e : B p with
  | none => rfl
  | some o =>
    rw [L.base p o e] at h
    cases h
theorem Led.nof (L : Led B F H) (h : H p = none) : p ∉ F.map Prod.fst := by
  intro m
  obtain ⟨x, hx, e⟩ := List.mem_map.mp m
  subst e
  rw [(L.own x hx).1] at h
  cases h
theorem Led.new (L : Led B F H) (h : H p = none) : Led B ((p, o) :: F) (upd H p o) := by
  refine ⟨fun b u e => ?_, fun x hx => ?_, ?_⟩
  · rw [upd_ne (ne_of_none (L.base b u e) h)]
    exact L.base b u e
  · rcases List.mem_cons.mp hx with e | e
    · subst e
      exact ⟨upd_same, L.nob h⟩
    · obtain ⟨h1, h2⟩ := L.own x e
      rw [upd_ne (ne_of_none h1 h)]
      exact ⟨h1, h2⟩
  · rw [List.map_cons, List.nodup_cons]
    exact ⟨L.nof h, L.nd⟩
theorem Led.tail {x : Addr × HO} (L : Led B (x :: F) H) : Led B F H :=
  ⟨L.base, fun y hy => L.own y (List.mem_cons_of_mem _ hy), (List.nodup_cons.mp (by have := L.nd; rwa [List.map_cons] at this)).2⟩
theorem Led.sub (L : Led B F H) (h : List.Sublist G F) : Led B G H :=
  ⟨L.base, fun y hy => L.own y (h.subset hy), (h.map Prod.fst).nodup L.nd⟩
theorem Led.none (L : Led B F H) : Led B [] H := L.sub (List.nil_sublist _)
theorem Led.one (L : Led B F H) (i : Nat) (h : F[i]? = some (p, o)) : Led B [(p, o)] H :=
  L.sub (List.singleton_sublist.mpr (List.mem_of_getElem? h))
theorem nodup_set {l : List (Addr × HO)} : ∀ {i : Nat}, l[i]? = some (p, o) → (l.set i (p, o')).map Prod.fst = l.map Prod.fst := by
  induction l with
  | nil => intro i h; simp at h
  | cons x l ih =>
    intro i h
    cases i with
    | zero =>
      rw [List.getElem?_cons_zero] at h
      cases h
      rfl
    | succ i =>
      rw [List.getElem?_cons_succ] at h
      rw [List.set_cons_succ, List.map_cons, List.map_cons, ih h]
theorem mem_set_ne {l : List (Addr × HO)} (nd : (l.map Prod.fst).Nodup) : ∀ {i : Nat}, l[i]? = some (p, o) → ∀ x ∈ l.set i (p, o'), x = (p, o') ∨ (x ∈ l ∧ x.1 ≠ p) := by
  induction l with
  | nil => intro i h; simp at h
  | cons y l ih =>
    intro i h x hx
    rw [List.map_cons, List.nodup_cons] at nd
    cases i with
    | zero =>
      rw [List.getElem?_cons_zero] at h
      cases h
      rw [List.set_cons_zero] at hx
      rcases List.mem_cons.mp hx with e | e
      · exact Or.inl e
      · exact Or.inr ⟨List.mem_cons_of_mem _ e, fun z => nd.1 (z ▸ List.mem_map.mpr ⟨x, e, rfl⟩)⟩
    | succ i =>
      rw [List.getElem?_cons_succ] at h
      rw [List.set_cons_succ] at hx
      rcases List.mem_cons.mp hx with e | e
      · subst e
        exact Or.inr ⟨List.mem_cons_self, fun z => nd.1 (z ▸ List.mem_map.mpr ⟨_, List.mem_of_getElem? h, rfl⟩)⟩
      · rcases ih nd.2 h x e with q | q
        · exact Or.inl q
        · exact Or.inr ⟨List.mem_cons_of_mem _ q.1, q.2⟩
theorem Led.put (L : Led B F H) (i : Nat) (h : F[i]? = some (p, o)) : Led B (F.set i (p, o')) (upd H p o') := by
  refine ⟨fun b u e => ?_, fun x hx => ?_, ?_⟩
  · rw [upd_ne (fun z => by rw [z, L.fresh i h] at e; cases e)]
    exact L.base b u e
  · rcases mem_set_ne L.nd h x hx with e | ⟨e, n⟩
    · subst e
      exact ⟨upd_same, L.fresh i h⟩
    · rw [upd_ne n]
      exact L.own x e
  · rw [nodup_set h]
    exact L.nd
/-- behind a step that keeps all -/
theorem Led.step (L : Led B F H) (M : Led H G H') : Led B (G ++ F) H' := by
  refine ⟨fun b u e => M.base b u (L.base b u e), fun x hx => ?_, ?_⟩
  · rcases List.mem_append.mp hx with e | e
    · exact ⟨(M.own x e).1, L.nob (M.own x e).2⟩
    · exact ⟨M.base _ _ (L.own x e).1, (L.own x e).2⟩
  · rw [List.map_append, List.nodup_append]
    refine ⟨M.nd, L.nd, fun u hu v hv e => ?_⟩
    subst e
    obtain ⟨x, hx, e⟩ := List.mem_map.mp hu
    subst e
    exact L.nof (M.own x hx).2 hv
theorem Led.step0 (L : Led B F H) (M : Led H [] H') : Led B F H' := L.step M
/-- behind a step that changes the i-th object -/
theorem Led.own1 (h : H a = some o) : Led (rmv H a) [(a, o)] H :=
  ⟨fun b u e => (rmv_some e).2, fun x hx => by
    cases List.mem_singleton.mp hx
    exact ⟨h, rmv_same⟩, by simp⟩
theorem Led.stepOwn (L : Led B F H) (i : Nat) (h : F[i]? = some (a, o)) (M : Led (rmv H a) (G ++ [(a, o')]) H') : Led B (G ++ F.set i (a, o')) H' := by
  have na : B a = Option.none := L.fresh i h
  have nd := M.nd
  rw [List.map_append, List.nodup_append] at nd
  refine ⟨fun b u e => ?_, fun x hx => ?_, ?_⟩
  · have nb : b ≠ a := fun z => by
      rw [z, na] at e
      cases e
    exact M.base b u (by rw [rmv_ne nb]; exact L.base b u e)
  · rcases List.mem_append.mp hx with e | e
    · obtain ⟨h1, h2⟩ := M.own x (List.mem_append.mpr (Or.inl e))
      have ne : x.1 ≠ a := nd.2.2 x.1 (List.mem_map.mpr ⟨x, e, rfl⟩) a (by simp)
      rw [rmv_ne ne] at h2
      exact ⟨h1, L.nob h2⟩
    · rcases mem_set_ne L.nd h x e with e | ⟨e, n⟩
      · subst e
        exact ⟨(M.own _ (List.mem_append.mpr (Or.inr (by simp)))).1, na⟩
      · obtain ⟨h1, h2⟩ := L.own x e
        exact ⟨M.base _ _ (by rw [rmv_ne n]; exact h1), h2⟩
  · rw [List.map_append, List.nodup_append, nodup_set h]
    refine ⟨nd.1, L.nd, fun u hu v hv e => ?_⟩
    subst e
    obtain ⟨x, hx, e⟩ := List.mem_map.mp hu
    subst e
    obtain ⟨h1, h2⟩ := M.own x (List.mem_append.mpr (Or.inl hx))
    have ne : x.1 ≠ a := nd.2.2 x.1 hu a (by simp)
    rw [rmv_ne ne] at h2
    exact L.nof h2 hv
/-- from now on an object stands still -/
theorem Led.still (L : Led B ((p, o) :: F) H) : Led (upd B p o) F H := by
  have nd := L.nd
  rw [List.map_cons, List.nodup_cons] at nd
  refine ⟨fun b u e => ?_, fun x hx => ?_, nd.2⟩
  · by_cases z : b = p
    · subst z
      rw [upd_same] at e
      cases e
      exact (L.own (b, o) List.mem_cons_self).1
    · rw [upd_ne z] at e
      exact L.base b u e
  · obtain ⟨h1, h2⟩ := L.own x (List.mem_cons_of_mem _ hx)
    refine ⟨h1, ?_⟩
    have ne : x.1 ≠ p := fun z => nd.1 (by
      show p ∈ F.map Prod.fst
      rw [← z]
      exact List.mem_map.mpr ⟨x, hx, rfl⟩)
    rw [upd_ne ne]
    exact h2
theorem Led.same (L : Led B F H) : Same B H := L.base
theorem Led.sq (L : Led B F H) {xs : List V} (h : SqL K B a xs) : SqL K H a xs := L.same.seq h
theorem Led.st (L : Led B F H) {xs : List V} (h : SqT K B a xs) : SqT K H a xs := by
  rcases h with (h | ⟨o, h⟩) | h
  · exact .inl (.inl (L.base _ _ h))
  · exact .inl (.inr ⟨o, L.base _ _ h⟩)
  · exact .inr h
theorem Led.sqI (L : Led B F H) (i : Nat) {xs : List V} (h : F[i]? = some (p, .lst xs)) : SqL K H p xs := SqL.of (L.get i h)
theorem Led.stI (L : Led B F H) (i : Nat) {xs : List V} (h : F[i]? = some (p, .tup xs)) : SqT K H p xs := SqT.of (L.get i h)
mutual
theorem Led.dp (L : Led B F H) : ∀ {v : V} {d : PyData}, Dp K B v d → Dp K H v d
  | _, _, .non => .non
  | _, _, .bl b => .bl b
  | _, _, .int i => .int i
  | _, _, .str x => .str x
  | _, _, .lst h a => .lst (L.sq h) (L.dpAll a)
  | _, _, .tup h a => .tup (L.st h) (L.dpAll a)
theorem Led.dpAll (L : Led B F H) : ∀ {vs : List V} {ds : List PyData}, DpAll K B vs ds → DpAll K H vs ds
  | _, _, .nil => .nil
  | _, _, .cons h a => .cons (L.dp h) (L.dpAll a)
end
end

/-! ### loops -/
def ForG (J : It) (g : TG) (tb : TS) (D : Ends) (σ : L2.St) (H : Hp) : Prop := ∃ W : Nat → Nat → L2.St → Hp → Prop, (∃ m, W 0 m σ H) ∧ ∀ i m σ H, W i m σ H →
  (J.stop i H ∧ D.nx σ H) ∨ (J.go i H ∧ ∃ N : L2.St → Hp → Prop, (∀ σ' H', N σ' H' → ∃ m', m' < m ∧ W (i + 1) m' σ' H') ∧ ∀ x H', J.yld i H x H' → g x σ H' fun σ2 H2 => tb { D with nx := N, ct := N, bk := D.nx } σ2 H2)
def LcG (J : It) (g : TG) (tt : TT) (te : TE) (vs : List Nat) (σ : L2.St) (D : Addr) (Qd : Hp → Prop) (H1 : Hp) : Prop := ∃ W : Nat → Nat → Hp → Prop, (∃ m, W 0 m (upd H1 D (.lst []))) ∧ ∀ i m H, W i m H →
      (J.stop i H ∧ Qd H) ∨ (J.go i H ∧ ∃ Nx : Hp → Prop, (∀ H', Nx H' → ∃ m', m' < m ∧ W (i + 1) m' H') ∧ ∀ x H', J.yld i H x H' → g x (wipe σ vs) H' fun σ2 H2 => wipe σ2 vs = wipe σ vs ∧ tt σ2 H2 fun b H3 =>
        if b = true then te σ2 H3 fun y H4 => ∃ acc, H4 D = some (.lst acc) ∧ acc.length < sizeLine ∧ Nx (upd H4 D (.lst (acc ++ [y]))) else Nx H3)
def WhB (tb : TS) (D : Ends) (Pv : Nat → L2.St → Hp → Prop) (m : Nat) (σ : L2.St) (H : Hp) : Prop := ∃ N : L2.St → Hp → Prop, (∀ σ' H', N σ' H' → ∃ m', m' < m ∧ Pv m' σ' H') ∧ tb { D with nx := N, ct := N, bk := D.nx } σ H
section
variable {D : Ends} {σ : L2.St} {H : Hp} {Q : VK} {tb : TS} {te : TE} {tt : TT} {ta : TA} {g : TG} {wi : TI} {K : PySem.W.Frag} {R : It → Hp → Prop} {vs : List Nat}
theorem a_for : tFor wi g tb D σ H = wi σ H fun J H1 => ForG J g tb D σ H1 := rfl
theorem a_lc : tLc wi g tt te vs σ H Q = wi σ H fun J H1 => ∀ P, H1 P = none → LcG J g tt te vs σ P (fun H => Q (.ref P) H) H1 := rfl
theorem a_iL : iList K te σ H R = te σ H fun x H1 => ∃ a, x = .ref a ∧ (∃ xs, SqL K H1 a xs) ∧ R (Itl K a) H1 := rfl
theorem a_iT : iTup K te σ H R = te σ H fun x H1 => ∃ a, x = .ref a ∧ (∃ xs, SqT K H1 a xs) ∧ R (Itt K a) H1 := rfl
theorem a_iR1 : iRng1 ta σ H R = ta σ H fun vs H1 => ∃ j : Int, vs = [.int j] ∧ -(2 ^ 62) ≤ j ∧ j < 2 ^ 62 ∧ R (Itr 0 j.toNat) H1 := rfl
theorem a_iR2 : iRng2 ta σ H R = ta σ H fun vs H1 => ∃ i j : Int, vs = [.int i, .int j] ∧ (-(2 ^ 62) ≤ i ∧ i < 2 ^ 62 ∧ -(2 ^ 62) ≤ j ∧ j < 2 ^ 62) ∧ R (Itr i (j - i).toNat) H1 := rfl
theorem a_iE : iEnum K ta σ H R = ta σ H fun vs H1 => ∃ a xs, vs = [.ref a] ∧ SqL K H1 a xs ∧ R (Ite K a) H1 := rfl
theorem a_iZ : iZip K ta σ H R = ta σ H fun vs H1 => ∃ a b xs ys, vs = [.ref a, .ref b] ∧ SqL K H1 a xs ∧ SqL K H1 b ys ∧ R (Itz K a b) H1 := rfl
theorem a_iS : iStr te σ H R = te σ H fun v H1 => ∃ x, v = .str x ∧ R (Its x) H1 := rfl
theorem whl {c : TT} (Pv : Nat → L2.St → Hp → Prop) (m : Nat) (h0 : Pv m σ H) (hs : ∀ N : Nat → L2.St → Hp → Prop, (∀ m σ H, Pv m σ H → N m σ H) → ∀ m σ H, Pv m σ H → c σ H fun b H1 => if b = true then WhB tb D N m σ H1 else D.nx σ H1) : tWhile c tb D σ H := ⟨Pv, ⟨m, h0⟩, hs Pv fun _ _ _ h => h⟩
theorem whb {Pv : Nat → L2.St → Hp → Prop} {m : Nat} (h : tb { D with nx := fun σ' H' => ∃ m', m' < m ∧ Pv m' σ' H', ct := fun σ' H' => ∃ m', m' < m ∧ Pv m' σ' H', bk := D.nx } σ H) : WhB tb D Pv m σ H := ⟨_, fun _ _ h => h, h⟩
theorem for_g {J : It} {n : Nat} {G : Hp → Prop} {Y : Nat → Hp → V → Hp → Prop} (w : Walk J n G Y) (Pv : Nat → L2.St → Hp → Prop) (h0 : Pv 0 σ H) (hG : ∀ i σ H, i ≤ n → Pv i σ H → G H)
    (hs : ∀ i x σ H H', i < n → Pv i σ H → Y i H x H' → g x σ H' fun σ2 H2 => tb { D with nx := Pv (i + 1), ct := Pv (i + 1), bk := D.nx } σ2 H2) (hd : ∀ σ H, Pv n σ H → D.nx σ H) : ForG J g tb D σ H := for_it w Pv h0 hG hs hd
/-- over a list -/
theorem for_l {a : Addr} {xs : List V} {j : Nat} (Pv : Nat → L2.St → Hp → Prop) (h0 : Pv 0 σ H) (hG : ∀ i σ H, i ≤ xs.length → Pv i σ H → SqL K H a xs)
    (hs : ∀ N : Nat → L2.St → Hp → Prop, (∀ i σ H, Pv i σ H → N i σ H) → ∀ i x σ H, xs[i]? = some x → Pv i σ H → tb { D with nx := N (i + 1), ct := N (i + 1), bk := D.nx } (σ.set j (some x)) H) (hd : ∀ σ H, Pv xs.length σ H → D.nx σ H) : ForG (Itl K a) (gName j) tb D σ H :=
  for_g walk_list Pv h0 hG (fun i x σ H H' hi p y => by
    obtain ⟨e, y⟩ := y
    subst e
    exact hs Pv (fun _ _ _ h => h) i x σ _ y p) hd
/-- over a range -/
theorem for_r {lo : Int} {n j : Nat} (Pv : Nat → L2.St → Hp → Prop) (h0 : Pv 0 σ H)
    (hs : ∀ N : Nat → L2.St → Hp → Prop, (∀ i σ H, Pv i σ H → N i σ H) → ∀ (i : Nat) σ H, i < n → Pv i σ H → tb { D with nx := N (i + 1), ct := N (i + 1), bk := D.nx } (σ.set j (some (.int (lo + i)))) H) (hd : ∀ σ H, Pv n σ H → D.nx σ H) : ForG (Itr lo n) (gName j) tb D σ H :=
  for_g walk_range Pv h0 (fun _ _ _ _ _ => trivial) (fun i x σ H H' hi p y => by
    obtain ⟨e, y⟩ := y
    subst e
    subst y
    exact hs Pv (fun _ _ _ h => h) i σ _ hi p) hd
abbrev g2 (K : PySem.W.Frag) (i j : Nat) : TG := gTup K 2 (gCons (gName i) (gCons (gName j) gNil))
theorem pair_in {x y : V} {T : Addr} {i j : Nat} {J : L2.St → Hp → Prop} (h : H T = none) (q : ∀ H', Led H [(T, .tup [x, y])] H' → J ((σ.set i (some x)).set j (some y)) H') : g2 K i j (.ref T) σ (upd H T (.tup [x, y])) J :=
  ⟨T, [x, y], rfl, SqT.of upd_same, rfl, x, [y], rfl, y, [], rfl, rfl, q _ ((Led.refl H).new h)⟩
/-- over enumerate(list) -/
theorem for_e {a : Addr} {xs : List V} {j k : Nat} (Pv : Nat → L2.St → Hp → Prop) (h0 : Pv 0 σ H) (hG : ∀ i σ H, i ≤ xs.length → Pv i σ H → SqL K H a xs)
    (hs : ∀ N : Nat → L2.St → Hp → Prop, (∀ i σ H, Pv i σ H → N i σ H) → ∀ (i : Nat) x σ H H', xs[i]? = some x → Pv i σ H → Led H [] H' → tb { D with nx := N (i + 1), ct := N (i + 1), bk := D.nx } ((σ.set j (some (.int (i : Nat)))).set k (some x)) H') (hd : ∀ σ H, Pv xs.length σ H → D.nx σ H) : ForG (Ite K a) (g2 K j k) tb D σ H :=
  for_g walk_enum Pv h0 hG (fun i v σ H H' hi p y => by
    obtain ⟨T, x, z, e, hT, e2, hx, hz⟩ := y
    subst e
    subst e2
    cases hx
    exact pair_in hT fun H' L => hs Pv (fun _ _ _ h => h) i z σ H H' hz p L.none) hd
/-- over zip(list, list) -/
theorem for_z {a b : Addr} {xs ys : List V} {j k : Nat} (Pv : Nat → L2.St → Hp → Prop) (h0 : Pv 0 σ H) (hG : ∀ i σ H, Pv i σ H → SqL K H a xs ∧ SqL K H b ys)
    (hs : ∀ N : Nat → L2.St → Hp → Prop, (∀ i σ H, Pv i σ H → N i σ H) → ∀ (i : Nat) x y σ H H', xs[i]? = some x → ys[i]? = some y → Pv i σ H → Led H [] H' → tb { D with nx := N (i + 1), ct := N (i + 1), bk := D.nx } ((σ.set j (some x)).set k (some y)) H') (hd : ∀ σ H, Pv (min xs.length ys.length) σ H → D.nx σ H) : ForG (Itz K a b) (g2 K j k) tb D σ H :=
  for_g (walk_zip rfl) Pv h0 (fun i σ H _ p => hG i σ H p) (fun i v σ H H' hi p y => by
    obtain ⟨T, x, z, e, hT, e2, hx, hz⟩ := y
    subst e
    subst e2
    exact pair_in hT fun H' L => hs Pv (fun _ _ _ h => h) i x z σ H H' hx hz p L.none) hd

/-- the ways behind an if are joined at Mid -/
theorem cut_ {t u : TS} (Mid : L2.St → Hp → Prop) (h1 : ∀ M : L2.St → Hp → Prop, (∀ σ H, Mid σ H → M σ H) → t { D with nx := M } σ H) (h2 : ∀ σ H, Mid σ H → u D σ H) : Evl.tCut t u D σ H := ⟨Mid, h1 Mid fun _ _ h => h, h2⟩
/-- over a list of pairs -/
theorem for_lp {a : Addr} {as : List Addr} {xs ys : List V} {j k : Nat} (hl : xs.length = as.length) (hl2 : ys.length = as.length) (Pv : Nat → L2.St → Hp → Prop) (h0 : Pv 0 σ H)
    (hG : ∀ i σ H, Pv i σ H → SqL K H a (as.map V.ref) ∧ ∀ (i : Nat) b x y, as[i]? = some b → xs[i]? = some x → ys[i]? = some y → SqT K H b [x, y])
    (hs : ∀ N : Nat → L2.St → Hp → Prop, (∀ i σ H, Pv i σ H → N i σ H) → ∀ (i : Nat) x y σ H, xs[i]? = some x → ys[i]? = some y → Pv i σ H → tb { D with nx := N (i + 1), ct := N (i + 1), bk := D.nx } ((σ.set j (some x)).set k (some y)) H)
    (hd : ∀ σ H, Pv as.length σ H → D.nx σ H) : ForG (Itl K a) (g2 K j k) tb D σ H :=
  for_g walk_list Pv h0 (fun i σ H _ p => (hG i σ H p).1) (fun i x σ H H' hi p y => by
    obtain ⟨e, y⟩ := y
    subst e
    rw [List.length_map] at hi
    rw [List.getElem?_map, List.getElem?_eq_getElem hi] at y
    cases y
    have h1 : xs[i]? = some (xs[i]'(by omega)) := List.getElem?_eq_getElem _
    have h2 : ys[i]? = some (ys[i]'(by omega)) := List.getElem?_eq_getElem _
    exact ⟨as[i], _, rfl, (hG i σ _ p).2 i _ _ _ (List.getElem?_eq_getElem hi) h1 h2, rfl, _, _, rfl, _, _, rfl, rfl, hs Pv (fun _ _ _ h => h) i _ _ σ _ h1 h2 p⟩) (fun σ H p => hd σ H (by rw [List.length_map] at p; exact p))

/-! ### comprehensions: acc the list so far; Pv by the turn, the list and the heap in which it stands -/
theorem lc_g {J : It} {n : Nat} {G : Hp → Prop} {Y : Nat → Hp → V → Hp → Prop} (w : Walk J n G Y) {P : Addr} {Qd : Hp → Prop} (Pv : Nat → Hp → Prop) (h0 : Pv 0 (upd H P (.lst []))) (hG : ∀ i H, i ≤ n → Pv i H → G H)
    (hs : ∀ i x H H', i < n → Pv i H → Y i H x H' → g x (wipe σ vs) H' fun σ2 H2 => wipe σ2 vs = wipe σ vs ∧ tt σ2 H2 fun b H3 =>
      if b = true then te σ2 H3 fun y H4 => ∃ acc, H4 P = some (.lst acc) ∧ acc.length < sizeLine ∧ Pv (i + 1) (upd H4 P (.lst (acc ++ [y]))) else Pv (i + 1) H3) (hd : ∀ H, Pv n H → Qd H) : LcG J g tt te vs σ P Qd H := lc_it w Pv h0 hG hs hd
section
variable {B : Hp} {F : List (Addr × HO)}
/-- the turn's end: the item y goes to the list -/
def LcY (B : Hp) (F : List (Addr × HO)) (P : Addr) (acc : List V) (y : V) (H4 : Hp) : Prop := ∃ a, H4 P = some (.lst a) ∧ a.length < sizeLine ∧ Led B ((P, .lst acc) :: F) (upd H4 P (.lst (a ++ [y])))
theorem lc_y {P : Addr} {acc acc' : List V} {y : V} {H4 : Hp} (L : Led B ((P, .lst acc) :: F) H4) (e : acc' = acc ++ [y]) (hl : acc.length < sizeLine) : LcY B F P acc' y H4 := by
  subst e
  exact ⟨acc, L.get 0 rfl, hl, L.put 0 rfl⟩
theorem lc_n {P : Addr} {acc acc' : List V} {H4 : Hp} (L : Led B ((P, .lst acc) :: F) H4) (e : acc' = acc) : Led B ((P, .lst acc') :: F) H4 := by
  subst e
  exact L
/-- acc i: the list ahead of turn i; nothing else changes -/
theorem lc_led {J : It} {n : Nat} {G : Hp → Prop} {Y : Nat → Hp → V → Hp → Prop} (w : Walk J n G Y) {P : Addr} {Qd : Hp → Prop} (L : Led B F H) (hP : H P = none) (acc : Nat → List V) (h0 : acc 0 = []) (hG : ∀ H, Led B F H → G H)
    (hs : ∀ i x H H', i < n → Led B ((P, .lst (acc i)) :: F) H → Y i H x H' → g x (wipe σ vs) H' fun σ2 H2 => wipe σ2 vs = wipe σ vs ∧ tt σ2 H2 fun b H3 =>
      if b = true then te σ2 H3 fun y H4 => LcY B F P (acc (i + 1)) y H4 else Led B ((P, .lst (acc (i + 1))) :: F) H3) (hd : ∀ H', Led B ((P, .lst (acc n)) :: F) H' → Qd H') : LcG J g tt te vs σ P Qd H :=
  lc_g w (fun i H => Led B ((P, .lst (acc i)) :: F) H) (by rw [h0]; exact L.new hP) (fun _ _ _ p => hG _ p.tail) hs hd
/-- over a list at a -/
theorem lc_l {a : Addr} {xs : List V} {j : Nat} {P : Addr} {Qd : Hp → Prop} (L : Led B F H) (hP : H P = none) (hS : ∀ H, Led B F H → SqL K H a xs) (acc : Nat → List V) (h0 : acc 0 = [])
    (hs : ∀ i x H, xs[i]? = some x → Led B ((P, .lst (acc i)) :: F) H → wipe ((wipe σ vs).set j (some x)) vs = wipe σ vs ∧ tt ((wipe σ vs).set j (some x)) H fun b H3 =>
      if b = true then te ((wipe σ vs).set j (some x)) H3 fun y H4 => LcY B F P (acc (i + 1)) y H4 else Led B ((P, .lst (acc (i + 1))) :: F) H3) (hd : ∀ H', Led B ((P, .lst (acc xs.length)) :: F) H' → Qd H') : LcG (Itl K a) (gName j) tt te vs σ P Qd H :=
  lc_led walk_list L hP acc h0 hS (fun i x H H' hi L y => by
    obtain ⟨e, y⟩ := y
    subst e
    exact hs i x _ y L) hd
/-- over a range -/
theorem lc_r {lo : Int} {n j : Nat} {P : Addr} {Qd : Hp → Prop} (L : Led B F H) (hP : H P = none) (acc : Nat → List V) (h0 : acc 0 = [])
    (hs : ∀ (i : Nat) H, i < n → Led B ((P, .lst (acc i)) :: F) H → wipe ((wipe σ vs).set j (some (.int (lo + i)))) vs = wipe σ vs ∧ tt ((wipe σ vs).set j (some (.int (lo + i)))) H fun b H3 =>
      if b = true then te ((wipe σ vs).set j (some (.int (lo + i)))) H3 fun y H4 => LcY B F P (acc (i + 1)) y H4 else Led B ((P, .lst (acc (i + 1))) :: F) H3) (hd : ∀ H', Led B ((P, .lst (acc n)) :: F) H' → Qd H') : LcG (Itr lo n) (gName j) tt te vs σ P Qd H :=
  lc_led walk_range L hP acc h0 (fun _ _ => trivial) (fun i x H H' hi L y => by
    obtain ⟨e, y⟩ := y
    subst e
    subst y
    exact hs i _ hi L) hd
/-- over enumerate(list) -/
theorem lc_e {a : Addr} {xs : List V} {j k : Nat} {P : Addr} {Qd : Hp → Prop} (L : Led B F H) (hP : H P = none) (hS : ∀ H, Led B F H → SqL K H a xs) (acc : Nat → List V) (h0 : acc 0 = [])
    (hs : ∀ (i : Nat) x H, xs[i]? = some x → Led B ((P, .lst (acc i)) :: F) H → wipe (((wipe σ vs).set j (some (.int (i : Nat)))).set k (some x)) vs = wipe σ vs ∧ tt (((wipe σ vs).set j (some (.int (i : Nat)))).set k (some x)) H fun b H3 =>
      if b = true then te (((wipe σ vs).set j (some (.int (i : Nat)))).set k (some x)) H3 fun y H4 => LcY B F P (acc (i + 1)) y H4 else Led B ((P, .lst (acc (i + 1))) :: F) H3) (hd : ∀ H', Led B ((P, .lst (acc xs.length)) :: F) H' → Qd H') : LcG (Ite K a) (g2 K j k) tt te vs σ P Qd H :=
  lc_led walk_enum L hP acc h0 hS (fun i v H H' hi L y => by
    obtain ⟨T, x, z, e, hT, e2, hx, hz⟩ := y
    subst e
    subst e2
    cases hx
    exact pair_in hT fun H' M => hs i z H' hz (L.step0 M.none)) hd
/-- over zip -/
theorem lc_z {a b : Addr} {xs ys : List V} {j k : Nat} {P : Addr} {Qd : Hp → Prop} (L : Led B F H) (hP : H P = none) (hS : ∀ H, Led B F H → SqL K H a xs ∧ SqL K H b ys) (acc : Nat → List V) (h0 : acc 0 = [])
    (hs : ∀ (i : Nat) x y H, xs[i]? = some x → ys[i]? = some y → Led B ((P, .lst (acc i)) :: F) H → wipe (((wipe σ vs).set j (some x)).set k (some y)) vs = wipe σ vs ∧ tt (((wipe σ vs).set j (some x)).set k (some y)) H fun b H3 =>
      if b = true then te (((wipe σ vs).set j (some x)).set k (some y)) H3 fun y H4 => LcY B F P (acc (i + 1)) y H4 else Led B ((P, .lst (acc (i + 1))) :: F) H3) (hd : ∀ H', Led B ((P, .lst (acc (min xs.length ys.length))) :: F) H' → Qd H') : LcG (Itz K a b) (g2 K j k) tt te vs σ P Qd H :=
  lc_led (walk_zip rfl) L hP acc h0 hS (fun i v H H' hi L y => by
    obtain ⟨T, x, z, e, hT, e2, hx, hz⟩ := y
    subst e
    subst e2
    exact pair_in hT fun H' M => hs i x z H' hx hz (L.step0 M.none)) hd
end
end
end Mi

/-! list(enumerate(xs)) -/
namespace Mi
open PySem PySem.Spec PyProof.Rows L2

theorem en_len : typeLookup (.type "enumerate") "__len__" = pure none := am_miss_of_fast (by decide +kernel)
theorem en_hint : typeLookup (.type "enumerate") "__length_hint__" = pure none := am_miss_of_fast (by decide +kernel)
section
variable {prog : Program} {w : World} {A : Around} {E : Value → Shared → Prop} {s : Shared}
theorem en_room {r : Addr} {Q : Bool → Shared → Prop} (hT : s.TypeIs (.ref r) "enumerate") (h : Q true s) : wpAny (model prog w) A (Builtin.List.listLengthHint (.ref r)) Q E s := by
  unfold Builtin.List.listLengthHint
  refine wpAny_bind (wpAny_specialOf hT en_len ?_)
  wp_delta
  refine wpAny_ite_split (fun hab => absurd hab (by decide)) (fun _ => ?_)
  refine wpAny_ite_split (fun hab => absurd hab (by decide)) (fun _ => ?_)
  refine wpAny_bind (wpAny_specialOf hT en_hint ?_)
  exact wpAny_pure h

/-- the walk's state: the pair told last may be held -/
structure EnSt (h : Heap) (e it l S : Addr) (items : Array Value) (i : Nat) : Prop where
  hit : h.IsListIter it l i
  hl : h.IsList l items
  hen : (∃ old, IsEnum h e it i old) ∨ ∃ old T f oT, IsEnumHeld h e it i old T f ∧ h.get? T = some oT ∧ T ≠ e ∧ T ≠ it ∧ T ≠ S
/-- the pairs made so far -/
structure EnG (items : Array Value) (lo : Addr) (h : Heap) (as : List Addr) : Prop where
  above : ∀ a ∈ as, lo < a
  pairs : ∀ (j : Nat) (a : Addr), as[j]? = some a → ∃ x t, items[j]? = some x ∧ h.get? a = some { cls := .type "tuple", data := .seq #[.int (j : Nat) t, x] }
  nd : as.Pairwise (· < ·)
theorem EnG.there {items : Array Value} {lo : Addr} {h : Heap} {as : List Addr} (g : EnG items lo h as) {a : Addr} (ha : a ∈ as) : a < h.objs.size := by
  obtain ⟨j, hj⟩ := List.mem_iff_getElem?.mp ha
  obtain ⟨_, _, _, e⟩ := g.pairs j a hj
  exact Heap.lt_size e
theorem en_item {e it l S : Addr} {items : Array Value} {i : Nat} {Q : Option Value → Shared → Prop} (st : EnSt s.heap e it l S items i) (hS : S < s.heap.objs.size) (hei : e ≠ it) (hle : l ≠ e) (hli : l ≠ it) (hi : i < items.size)
    (hQ : ∀ h', EnSt h' e it l S items (i + 1) → h'.get? s.heap.objs.size = some { cls := .type "tuple", data := .seq #[.int i s.toks, items[i]] } → h'.objs.size = s.heap.objs.size + 1 →
      (∀ b o, b ≠ e → b ≠ it → s.heap.get? b = some o → h'.get? b = some o) → Q (some (.ref s.heap.objs.size)) { s with heap := h', toks := s.toks + 1 }) :
    wpAny (model prog w) A (pyNext (.ref e)) Q E s := by
  obtain ⟨hit, hl, hen⟩ := st
  have ex : items[i]? = some items[i] := Array.getElem?_eq_getElem hi
  have ec : ((i + 1 : Nat) : Int) = (i : Int) + 1 := by omega
  have nit : s.heap.objs.size ≠ it := by
    obtain ⟨_, x, _⟩ := hit
    exact Nat.ne_of_gt (Heap.lt_size x)
  rcases hen with ⟨old, he⟩ | ⟨old, T, f, oT, he, hT, r1, r2, r3⟩
  · refine wpAny_pyNext_enum_item he hit hl ex hei fun h' ho hit' hT' hz hk => hQ h' ⟨hit', hl.at fun o x => hk l o hle hli x, Or.inr ?_⟩ hT' hz hk
    exact ⟨_, s.heap.objs.size, false, _, (by rw [ec]; exact ho), hT', Nat.ne_of_gt (Heap.lt_size he), nit, Nat.ne_of_gt hS⟩
  · refine wpAny_pyNext_enum_item_held he hT r1 r2 hit hl ex hei fun h' ho hit' hT' hz hk => hQ h' ⟨hit', hl.at fun o x => hk l o hle hli x, Or.inr ?_⟩ hT' hz hk
    exact ⟨old, T, true, oT, (by rw [ec]; exact ho), hk _ _ r1 r2 hT, r1, r2, r3⟩
theorem en_done {e it l S : Addr} {items : Array Value} {i : Nat} {Q : Option Value → Shared → Prop} (hh : A.handled = none) (st : EnSt s.heap e it l S items i) (hi : items.size ≤ i)
    (hQ : ∀ h', (∀ b o, b ≠ it → s.heap.get? b = some o → h'.get? b = some o) → Q none { s with heap := h' }) : wpAny (model prog w) A (pyNext (.ref e)) Q E s := by
  obtain ⟨hit, hl, hen⟩ := st
  have hx : items[i]? = none := Array.getElem?_eq_none hi
  rcases hen with ⟨old, he⟩ | ⟨old, T, f, oT, he, hT, r1, r2, r3⟩
  · exact wpAny_pyNext_enum_end hh he hit hl hx fun h' hk => hQ h' hk
  · exact wpAny_pyNext_enum_end_held hh he hit hl hx fun h' hk => hQ h' hk
theorem EnSt.keep {h h' : Heap} {e it l S : Addr} {items : Array Value} {i : Nat} (st : EnSt h e it l S items i) (he : e ≠ S) (hi : it ≠ S) (hl : l ≠ S) (hk : ∀ b o, b ≠ S → h.get? b = some o → h'.get? b = some o) : EnSt h' e it l S items i := by
  obtain ⟨a, b, c⟩ := st
  refine ⟨a.at fun o x => hk _ o hi x, b.at fun o x => hk _ o hl x, ?_⟩
  rcases c with ⟨old, z⟩ | ⟨old, T, f, oT, z, hT, r1, r2, r3⟩
  · exact Or.inl ⟨old, hk _ _ he z⟩
  · exact Or.inr ⟨old, T, f, oT, hk _ _ he z, hk _ _ r3 hT, r1, r2, r3⟩
end
section
variable {prog : Program} {w : World} {A : Around} {s : Shared} {R : Result → Shared → Prop}
theorem en_loop {S e it l : Addr} {items : Array Value} (hh : A.handled = none) (hSe : e ≠ S) (hSi : it ≠ S) (hSl : l ≠ S) (hei : e ≠ it) (hle : l ≠ e) (hli : l ≠ it) (hn : items.size ≤ sizeLine) (res : Value) {h₁ : Heap} {lo : Addr} (hlS : S ≤ lo) (hle2 : e ≤ lo) (hli2 : it ≤ lo)
    (hR : ∀ h' tk acc c as, (∀ b o, b ≠ S → b ≠ e → b ≠ it → h₁.get? b = some o → h'.get? b = some o) → h'.get? S = some { cls := .type "list", dict := none, data := .seq acc c, slots := #[] } → as.length = items.size → EnG items lo h' as →
      acc.toList = as.map Value.ref → R (.ok (.ret res)) { s with heap := h', toks := tk }) :
    ∀ (k i : Nat) (h : Heap) (tk c : Nat) (acc : Array Value) (as : List Addr), items.size - i = k → i ≤ items.size → EnSt h e it l S items i → (∀ b o, b ≠ S → b ≠ e → b ≠ it → h₁.get? b = some o → h.get? b = some o) →
      h.get? S = some { cls := .type "list", dict := none, data := .seq acc c, slots := #[] } → acc.toList = as.map Value.ref → as.length = i → EnG items lo h as → lo < h.objs.size →
      codeAny (model prog w) A (.builtin "list.extend.loop" ⟨[.ref S, .ref e, res], []⟩) R { s with heap := h, toks := tk } := by
  intro k
  induction k with
  | zero =>
    intro i h tk c acc as hk hi st hkeep hS hacc hal hG hlo
    apply codeAny_builtin PySem.F.entry_extend_loop
    rw [Around.under_plainId PySem.F.plain_extend_loop _]
    show wpAny _ A.in1 (pyNext (.ref e) >>= _) _ _ _
    refine wpAny_bind (en_done (s := { s with heap := h, toks := tk }) (A := A.in1) hh st (by omega) fun h' he => ?_)
    refine wpAny_pure (hR h' tk acc c as (fun b o h1 h2 h3 z => he b o h3 (hkeep b o h1 h2 h3 z)) (he S _ (Ne.symm hSi) hS) (by omega) ⟨hG.above, fun j a hj => ?_, hG.nd⟩ hacc)
    obtain ⟨x, t, e1, e2⟩ := hG.pairs j a hj
    have la := hG.above a (List.mem_of_getElem? hj)
    exact ⟨x, t, e1, he a _ (Nat.ne_of_gt (Nat.lt_of_le_of_lt hli2 la)) e2⟩
  | succ k ih =>
    intro i h tk c acc as hk hi st hkeep hS hacc hal hG hlo
    have hlt : i < items.size := by omega
    have hsz : acc.size = i := by rw [← Array.length_toList, hacc, List.length_map, hal]
    have hSl' : S < h.objs.size := Heap.lt_size hS
    apply codeAny_builtin PySem.F.entry_extend_loop
    rw [Around.under_plainId PySem.F.plain_extend_loop _]
    show wpAny _ A.in1 (pyNext (.ref e) >>= _) _ _ _
    refine wpAny_bind (en_item (s := { s with heap := h, toks := tk }) st hSl' hei hle hli hlt fun h' st' ht hz hkp => ?_)
    dsimp only at ht hz hkp ⊢
    have hS' := hkp S _ (Ne.symm hSe) (Ne.symm hSi) hS
    have up : ∀ b o, b ≠ S → h'.get? b = some o → (h'.update S (Obj.mapSeq (·.push (Value.ref h.objs.size)))).get? b = some o := fun b o hb z => (Heap.get?_update_other _ _ (Ne.symm hb)).trans z
    have new : (h'.update S (Obj.mapSeq (·.push (Value.ref h.objs.size)))).get? h.objs.size = some { cls := .type "tuple", data := .seq #[.int i tk, items[i]] } := up _ _ (Nat.ne_of_gt hSl') ht
    show wpAny _ A.in1 (updateSeq S (·.push (Value.ref h.objs.size)) >>= _) _ _ _
    apply wpAny_bind
    refine wpAny_updateSeq hS' rfl (wpAny_pure ⟨plainId_quiet PySem.F.plain_extend_loop _, ?_⟩) (by rw [hsz]; omega) (by show (acc.push (Value.ref h.objs.size)).size ≤ sizeLine + 1; rw [Array.size_push, hsz]; omega)
    refine ih (i + 1) _ (tk + 1) _ (acc.push (Value.ref h.objs.size)) (as ++ [h.objs.size]) (by omega) hlt (st'.keep hSe hSi hSl up) (fun b o h1 h2 h3 z => up b o h1 (hkp b o h2 h3 (hkeep b o h1 h2 h3 z))) (Heap.get?_update_self _ hS' rfl)
      (by rw [Array.toList_push, hacc, List.map_append]; rfl) (by rw [List.length_append, hal]; rfl) ⟨fun a ha => ?_, fun j b hj => ?_, ?_⟩ (Nat.lt_trans hlo (Heap.lt_size new))
    · rcases List.mem_append.mp ha with ha | ha
      · exact hG.above a ha
      · rw [List.mem_singleton.mp ha]
        exact hlo
    · rcases Nat.lt_trichotomy j as.length with h1 | h1 | h1
      · rw [List.getElem?_append_left h1] at hj
        obtain ⟨x, t, e1, e2⟩ := hG.pairs j b hj
        have hb := hG.above b (List.mem_of_getElem? hj)
        exact ⟨x, t, e1, up b _ (Nat.ne_of_gt (Nat.lt_of_le_of_lt hlS hb)) (hkp b _ (Nat.ne_of_gt (Nat.lt_of_le_of_lt hle2 hb)) (Nat.ne_of_gt (Nat.lt_of_le_of_lt hli2 hb)) e2)⟩
      · subst h1
        have hb : h.objs.size = b := by simpa using hj
        subst hb
        subst hal
        exact ⟨_, tk, Array.getElem?_eq_getElem hlt, new⟩
      · have hnone : (as ++ [h.objs.size])[j]? = none := List.getElem?_eq_none (by rw [List.length_append, List.length_singleton]; omega)
        rw [hnone] at hj
        cases hj
    · refine List.pairwise_append.mpr ⟨hG.nd, List.pairwise_singleton _ _, fun a ha b hb => ?_⟩
      rw [List.mem_singleton.mp hb]
      exact hG.there ha
end
section
variable {prog : Program} {w : World} {A : Around} {E : Value → Shared → Prop} {s : Shared} {e it l : Addr} {items : Array Value}
theorem en_call {Q : Value → Shared → Prop} (hh : A.handled = none) (he : IsEnum s.heap e it 0 .none) (hit : s.heap.IsListIter it l 0) (hl : s.heap.IsList l items) (hei : e ≠ it) (hle : l ≠ e) (hli : l ≠ it) (hn : items.size ≤ sizeLine)
    (hQ : ∀ h' tk acc c as, (∀ b o, b ≠ e → b ≠ it → s.heap.get? b = some o → h'.get? b = some o) → h'.get? s.heap.objs.size = some { cls := .type "list", dict := none, data := .seq acc c, slots := #[] } → as.length = items.size → EnG items s.heap.objs.size h' as →
      acc.toList = as.map Value.ref → Q (.ref s.heap.objs.size) { s with heap := h', toks := tk }) :
    wpAny (model prog w) A (call (.type "list") [.ref e]) Q E s := by
  have helt : e < s.heap.objs.size := Heap.lt_size he
  have hilt : it < s.heap.objs.size := by
    obtain ⟨_, x, _⟩ := id hit
    exact Heap.lt_size x
  have hllt : l < s.heap.objs.size := by
    obtain ⟨_, x, _⟩ := id hl
    exact Heap.lt_size x
  apply callType_codes (Q₁ := fun obj s₁ => obj = .ref s.heap.objs.size ∧ s₁ = { s with heap := s.heap.push { cls := .type "list", data := .seq #[] } }) PySem.F.called_list (PySem.F.typeCall_list_1 _) PySem.F.entry_list_init (code_list_new _ ⟨rfl, rfl⟩)
  rintro obj s₁ ⟨rfl, rfl⟩
  have hS : (s.heap.push { cls := .type "list", data := .seq #[] }).get? s.heap.objs.size = some { cls := .type "list", data := .seq #[] } := Heap.get?_push_size _ rfl
  refine ⟨⟨_, hS, rfl⟩, PySem.F.args_list_init_2 _ _, ?_⟩
  show wpAny _ _ (do let old ← Builtin.List.listItems (.ref s.heap.objs.size); Builtin.List.listUpdate (.ref s.heap.objs.size) (fun _ => #[]); letGo old.toList.reverse; Builtin.List.listExtendWith (.ref s.heap.objs.size) (.ref e) .none) _ _ _
  apply wpAny_bind
  unfold Builtin.List.listItems
  refine wpAny_bind (wpAny_seqItems hS rfl (wpAny_pure ?_))
  show wpAny _ _ (updateSeq s.heap.objs.size (fun _ => #[]) >>= fun _ => letGo (#[] : Array Value).toList.reverse >>= fun _ => Builtin.List.listExtendWith (.ref s.heap.objs.size) (.ref e) .none) _ _ _
  refine wpAny_bind (wpAny_updateSeq hS rfl ?_)
  have hS₂ := Heap.get?_update_self (Obj.mapSeq (fun _ => (#[] : Array Value))) hS rfl
  generalize hh2 : (s.heap.push { cls := .type "list", data := .seq #[] }).update s.heap.objs.size (Obj.mapSeq fun _ => (#[] : Array Value)) = g2 at hS₂ ⊢
  have k2 : ∀ b o, s.heap.get? b = some o → g2.get? b = some o := fun b o z => by
    rw [← hh2]
    exact (Heap.get?_update_other _ _ (Nat.ne_of_gt (Heap.lt_size z))).trans (Heap.get?_push_of_some _ z)
  refine wpAny_bind (wpAny_letGo ?_)
  -- the extension
  unfold Builtin.List.listExtendWith
  refine wpAny_bind (wpAny_typeOf (T := "enumerate") ⟨_, k2 _ _ he, rfl⟩ ?_)
  have h1 : Builtin.List.listSameRef (.ref s.heap.objs.size) (.ref e) = false := by
    have : s.heap.objs.size ≠ e := Nat.ne_of_gt helt
    simp [Builtin.List.listSameRef, this]
  have h2 : (Value.type "enumerate" == Value.type "list") = false := by decide
  have h3 : (Value.type "enumerate" == Value.type "tuple") = false := by decide
  simp only [h1, h2, h3, Bool.or_false, Bool.false_eq_true, if_false]
  refine wpAny_bind (wpAny_pyIter_enum (s := { s with heap := g2 }) (k2 _ _ he) ?_)
  refine wpAny_bind (wpAny_holding (en_room ⟨_, k2 _ _ he, rfl⟩ ?_))
  rw [if_pos (show (true || _) = true from rfl)]
  refine wpAny_bind (wpAny_rule ?_)
  apply wpAny_bind
  show wpAny _ _ (updateSeq s.heap.objs.size (·.push .none) >>= fun _ => updateSeq s.heap.objs.size (·.pop)) _ _ _
  refine wpAny_bind (wpAny_updateSeq hS₂ rfl ?_)
  have hS₃ := Heap.get?_update_self (Obj.mapSeq (·.push Value.none)) hS₂ rfl
  refine wpAny_updateSeq (hz := by seq_fits) hS₃ rfl ?_
  have hS₄ := Heap.get?_update_self (Obj.mapSeq (·.pop)) hS₃ rfl
  refine wpAny_pure ⟨plainId_quiet PySem.F.plain_extend_loop _, ?_⟩
  have k4 : ∀ b o, s.heap.get? b = some o → ((g2.update s.heap.objs.size (Obj.mapSeq (·.push Value.none))).update s.heap.objs.size (Obj.mapSeq (·.pop))).get? b = some o := fun b o z => by
    have nb := Nat.ne_of_gt (Heap.lt_size z)
    exact (Heap.get?_update_other _ _ nb).trans ((Heap.get?_update_other _ _ nb).trans (k2 b o z))
  refine en_loop (A := A.in1) (s := s) (h₁ := s.heap) (lo := s.heap.objs.size) hh (Nat.ne_of_lt helt) (Nat.ne_of_lt hilt) (Nat.ne_of_lt hllt) hei hle hli hn .none (Nat.le_refl _) (Nat.le_of_lt helt) (Nat.le_of_lt hilt) (fun h' tk acc c as hk hS' hal hG hacc => ?_)
    items.size 0 _ s.toks _ #[] [] (Nat.sub_zero _) (Nat.zero_le _) ⟨hit.at fun o z => k4 _ o z, hl.at fun o z => k4 _ o z, Or.inl ⟨_, k4 _ _ he⟩⟩ (fun b o _ _ _ z => k4 b o z) hS₄ rfl rfl ⟨fun _ z => (nomatch z), fun j a hj => by simp at hj, List.Pairwise.nil⟩ (Heap.lt_size hS₄)
  exact ⟨rfl, hQ h' tk acc c as (fun b o h1 h2 z => hk b o (Nat.ne_of_lt (Heap.lt_size z)) h1 h2 z) hS' hal hG hacc⟩
end
end Mi

/-! more rules -/
namespace Mi
open PySem PySem.Spec PyProof.Rows L2

theorem hu64 {k : Nat} {A : Around} (hr : Rm k A) : A.units + 64 < cLine := by
  have := hr.rm.un
  omega

/-! ### several new objects at once -/
theorem lookup_mem {F : List (Addr × HO)} {b : Addr} {o : HO} (h : F.lookup b = some o) : (b, o) ∈ F := by
  induction F with
  | nil => cases h
  | cons x F ih =>
    obtain ⟨a, u⟩ := x
    by_cases e : b = a
    · subst e
      rw [List.lookup_cons_self] at h
      cases h
      exact List.mem_cons_self
    · have q : (b == a) = false := beq_eq_false_iff_ne.mpr e
      simp only [List.lookup_cons, q] at h
      exact List.mem_cons_of_mem _ (ih h)
theorem mem_lookup {F : List (Addr × HO)} (nd : (F.map Prod.fst).Nodup) {b : Addr} {o : HO} (h : (b, o) ∈ F) : F.lookup b = some o := by
  induction F with
  | nil => cases h
  | cons x F ih =>
    obtain ⟨a, u⟩ := x
    rw [List.map_cons, List.nodup_cons] at nd
    rcases List.mem_cons.mp h with e | e
    · cases e
      exact List.lookup_cons_self
    · have ne : b ≠ a := fun z => nd.1 (by
        show a ∈ F.map Prod.fst
        rw [← z]
        exact List.mem_map.mpr ⟨_, e, rfl⟩)
      have q : (b == a) = false := beq_eq_false_iff_ne.mpr ne
      simp only [List.lookup_cons, q]
      exact ih nd.2 e
section
variable {X : Cx} {pins : List (Addr × Obj)} {σ : L2.St} {H : Hp} {s : Shared} {h' : Heap}
theorem inv_lays {t' : Nat} (I : Inv X pins σ H s) (k : ∀ b u, s.heap.get? b = some u → h'.get? b = some u) (F : List (Addr × HO)) (nd : (F.map Prod.fst).Nodup) (hp : ∀ x ∈ F, s.heap.objs.size ≤ x.1)
    (new : ∀ x ∈ F, ∀ H2, ObjOk X.prog X.w H2 h' x.1 x.2) : ∃ H2, Led H F H2 ∧ Inv X pins σ H2 { s with heap := h', toks := t' } := by
  have low : ∀ b o, H b = some o → b < s.heap.objs.size := fun b o e => I.hok.lt e
  refine ⟨fun b => if b < s.heap.objs.size then H b else F.lookup b, ⟨fun b o e => ?_, fun x hx => ⟨?_, ?_⟩, nd⟩, I.un ⟨?_, ?_, ?_, ?_, ?_, ?_, ?_⟩ ?_⟩
  · exact (if_pos (low b o e)).trans e
  · exact (if_neg (Nat.not_lt.mpr (hp x hx))).trans (mem_lookup nd hx)
  · exact I.hok.fresh (hp x hx)
  · exact fun b o e _ _ _ => k b o e
  · exact fun b o e _ _ _ => ⟨o.slots, k b o e⟩
  · exact fun b o e n _ => (if_pos (Heap.lt_size e)).trans n
  · exact fun b o e _ => ⟨o, k b o e⟩
  · exact fun b xs e => (if_pos (low b _ e)).trans e
  · exact fun b o u e => (if_pos (low b _ e)).trans e
  · exact fun b ps e => ⟨#[], by rw [Array.append_empty]; exact (if_pos (low b _ e)).trans e⟩
  · intro b o e
    by_cases hb : b < s.heap.objs.size
    · have e' : H b = some o := (if_pos hb).symm.trans e
      exact (I.hok b o e').stay (fun c u _ q => k c u q) (fun c q => (if_pos (low c _ q)).trans q) fun c xs q => (if_pos (low c _ q)).trans q
    · have e' : F.lookup b = some o := (if_neg hb).symm.trans e
      exact new _ (lookup_mem e') _
end

/-! ### list(enumerate(xs)) -/
/-- the pairs (j, item) at the addresses -/
def enF (as : List Addr) (xs : List V) : List (Addr × HO) := (List.range xs.length).map fun j => (as.getD j 0, .tup [.int (j : Nat), xs.getD j .non])
def tListEnum (K : PySem.W.Frag) (te : TE) : TE := fun σ H Q => te σ H fun x H1 => ∃ a xs, x = .ref a ∧ SqL K H1 a xs ∧ ∀ P as H2, as.length = xs.length → Led H1 ((P, .lst (as.map V.ref)) :: enF as xs) H2 → Q (.ref P) H2
section
variable {X : Cx}
theorem pe_listEnum {e : Expr} {te : TE} {p p2 pos pos2 : Pos} (hc : X.calm = true) (hg : Gl X "list") (hg2 : Gl X "enumerate") (hm : X.mg "list" = none) (hm2 : X.mg "enumerate" = none) (he : PE X e te)
    (hs : starEach [e] X.env = (false, eval e X.env) :: starEach [] X.env := by rfl)
    (hs2 : starEach [.Call (.Name "enumerate" p2) [e] [] pos2] X.env = (false, eval (.Call (.Name "enumerate" p2) [e] [] pos2) X.env) :: starEach [] X.env := by rfl) :
    PE X (.Call (.Name "list" p) [.Call (.Name "enumerate" p2) [e] [] pos2] [] pos) (tListEnum X.K te) := by
  constructor
  intro pins s σ H Q I h
  refine Call_ (ld_blt I hg hm (u := .type "list") (by decide +kernel) (PyProof.Rows.callWith_type1 (args_cons ?_ hs2) hs2 rfl))
  refine Call_ (ld_blt I hg2 hm2 (u := .type "enumerate") (by decide +kernel) (PyProof.Rows.callWith_type1 (args_cons ?_ hs) hs rfl))
  apply thn (he.run pins s σ H _ I h)
  rintro u s1 ⟨v, H1, I1, r1, a, xs, ev, hq, q⟩
  subst ev
  cases (show u = Value.ref a from r1)
  obtain ⟨its, rv, pl, hz⟩ := I1.list hq
  refine args_nil (call_enumerate_list pl.isList fun h1 he1 hi1 hz1 k1 => args_nil ?_)
  obtain ⟨ol, hol, _⟩ := id pl.isList
  have hal : a < s1.heap.objs.size := Heap.lt_size hol
  have hl1 : h1.IsList a its.toArray := pl.isList.at fun o z => k1 a o z
  have c1 : s1.heap.objs.size + 1 ≠ s1.heap.objs.size := Nat.succ_ne_self _
  refine en_call (s := { s1 with heap := h1 }) (I1.ok.hd hc) he1 hi1 hl1 c1 (Nat.ne_of_lt (Nat.lt_succ_of_lt hal)) (Nat.ne_of_lt hal) (by rw [List.size_toArray, ← rv.length]; exact hz) fun h' tk acc c as hk hS hal2 hG hacc => ?_
  have sz1 : h1.objs.size = s1.heap.objs.size + 2 := hz1
  have hlen : as.length = xs.length := by rw [hal2, List.size_toArray, rv.length]
  have get : ∀ j (hj : j < xs.length), as[j]? = some (as.getD j 0) := fun j hj => by
    have hj' : j < as.length := by rw [hlen]; exact hj
    rw [List.getElem?_eq_getElem hj', List.getD_eq_getElem?_getD, List.getElem?_eq_getElem hj']
    rfl
  have kk : ∀ b o, s1.heap.get? b = some o → h'.get? b = some o := fun b o z => by
    have lb : b < s1.heap.objs.size := Heap.lt_size z
    exact hk b o (Nat.ne_of_lt (Nat.lt_succ_of_lt lb)) (Nat.ne_of_lt lb) (k1 b o z)
  have mm : ∀ x ∈ enF as xs, ∃ j, j < xs.length ∧ x = (as.getD j 0, HO.tup [.int (j : Nat), xs.getD j .non]) := fun x hx => by
    obtain ⟨j, hj, e⟩ := List.mem_map.mp hx
    exact ⟨j, List.mem_range.mp hj, e.symm⟩
  have ab : ∀ j, j < xs.length → h1.objs.size < as.getD j 0 := fun j hj => hG.above _ (List.mem_of_getElem? (get j hj))
  have efst : (enF as xs).map Prod.fst = as := by
    apply List.ext_getElem?
    intro j
    unfold enF
    rw [List.map_map, List.getElem?_map]
    by_cases hj : j < xs.length
    · rw [List.getElem?_range hj, get j hj]
      rfl
    · rw [List.getElem?_eq_none (by rw [List.length_range]; omega), List.getElem?_eq_none (by rw [hlen]; omega)]
      rfl
  obtain ⟨H2, L2', I2⟩ := inv_lays (t' := tk) I1 kk ((h1.objs.size, .lst (as.map V.ref)) :: enF as xs) (by
      rw [List.map_cons, efst, List.nodup_cons]
      refine ⟨fun z => Nat.lt_irrefl _ (hG.above _ z), ?_⟩
      exact hG.nd.imp fun {a b} l => Nat.ne_of_lt l) (fun x hx => by
      rcases List.mem_cons.mp hx with e | e
      · subst e
        show s1.heap.objs.size ≤ h1.objs.size
        omega
      · obtain ⟨j, hj, e⟩ := mm x e
        subst e
        have := ab j hj
        show s1.heap.objs.size ≤ as.getD j 0
        exact Nat.le_trans (by omega) (Nat.le_of_lt this)) (fun x hx H2 => by
      rcases List.mem_cons.mp hx with e | e
      · subst e
        refine ⟨by rw [List.length_map, hlen]; exact hz, as.map Value.ref, c, ?_, ?_⟩
        · exact vals_refs as
        · rw [← hacc]
          exact hS
      · obtain ⟨j, hj, e⟩ := mm x e
        subst e
        obtain ⟨y, t, e1, e2⟩ := hG.pairs j _ (get j hj)
        refine ⟨by show 2 ≤ sizeLine; decide, [.int (j : Nat) t, y], .cons ⟨t, rfl⟩ (.cons ?_ .nil), ⟨_, e2, rfl, _, rfl⟩⟩
        have e1' : its[j]? = some y := by simpa using e1
        have hx' : xs[j]? = some (xs.getD j .non) := by
          rw [List.getElem?_eq_getElem hj, List.getD_eq_getElem?_getD, List.getElem?_eq_getElem hj]
          rfl
        obtain ⟨u, e3, r3⟩ := rv.get hx'
        rw [e1'] at e3
        cases e3
        exact r3)
  exact ⟨.ref h1.objs.size, H2, I2, rfl, q _ as H2 hlen L2'⟩
end
end Mi

/-! names for the rules that the printed readings use -/
namespace Mi
open PySem PySem.Spec PyProof.Rows L2

def rLenL (K : PySem.W.Frag) : List V → Hp → VK → Prop := fun xs H Q => ∃ p ys, xs = [.ref p] ∧ (SqL K H p ys ∨ SqT K H p ys) ∧ Q (.int ys.length) H
def rLenT : List V → Hp → VK → Prop := fun xs H Q => ∃ z : Str, xs = [.str z] ∧ z.length ≤ sizeLine ∧ Q (.int z.length) H
def rInt1 : List V → Hp → VK → Prop := fun xs H Q => (∃ i, xs = [.int i] ∧ Q (.int i) H) ∨ ∃ k, xs = [.bl k] ∧ Q (.int (if k then 1 else 0)) H
def rIntS : List V → Hp → VK → Prop := fun xs H Q => ∃ a n, xs = [.str a] ∧ PySem.intText? a = some n ∧ a.length ≤ 640 ∧ Q (.int n) H
def rStrI : List V → Hp → VK → Prop := fun xs H Q => ∃ i, xs = [.int i] ∧ i.natAbs.log2 < 1920 ∧ Q (.str (toString i)) H
def rListOf (K : PySem.W.Frag) : List V → Hp → VK → Prop := fun xs H Q => ∃ p ys, xs = [.ref p] ∧ (SqL K H p ys ∨ SqT K H p ys) ∧ ∀ l, H l = none → Q (.ref l) (upd H l (.lst ys))
def rMax2 : List V → Hp → VK → Prop := fun xs H Q => ∃ i j, xs = [.int i, .int j] ∧ Q (.int (if j > i then j else i)) H
def rMin2 : List V → Hp → VK → Prop := fun xs H Q => ∃ i j, xs = [.int i, .int j] ∧ Q (.int (if j < i then j else i)) H
def rAbs : List V → Hp → VK → Prop := fun xs H Q => ∃ i, xs = [.int i] ∧ Q (.int (if i < 0 then -i else i)) H
def tRaise0 (E : XK) (cls : Value) : TS := fun _ _ H => E cls none H
/-- two lists of ints -/
def rEqLI (K : PySem.W.Frag) (neg : Bool) : R2 := fun x y H Q => ∃ (a b : Addr) (ns ms : List Int), x = .ref a ∧ y = .ref b ∧ SqL K H a (ns.map V.int) ∧ SqL K H b (ms.map V.int) ∧ Q (.bl (if neg then !decide (ns = ms) else decide (ns = ms))) H

theorem dpAll_ints {K : PySem.W.Frag} {H : Hp} : ∀ ns : List Int, DpAll K H (ns.map V.int) (ns.map PyData.int)
  | [] => .nil
  | n :: ns => .cons (.int n) (dpAll_ints ns)
theorem dp_ints {K : PySem.W.Frag} {H : Hp} {a : Addr} {ns : List Int} (h : SqL K H a (ns.map V.int)) : Dp K H (.ref a) (.list (ns.map PyData.int)) := .lst h (dpAll_ints ns)
theorem canLay_ints : ∀ ns : List Int, PySem.PyData.canLayAll0 (ns.map PyData.int) = true
  | [] => rfl
  | n :: ns => by
    show (PySem.PyData.canLay0 (PyData.int n) && PySem.PyData.canLayAll0 (ns.map PyData.int)) = true
    rw [canLay_ints ns]
    rfl
theorem eqvAll_ints : ∀ ns ms : List Int, PySem.PyData.eqvAll (ns.map PyData.int) (ms.map PyData.int) = decide (ns = ms)
  | [], [] => rfl
  | [], m :: ms => rfl
  | n :: ns, [] => rfl
  | n :: ns, m :: ms => by
    show (PySem.PyData.eqv (.int n) (.int m) && PySem.PyData.eqvAll (ns.map PyData.int) (ms.map PyData.int)) = decide (n :: ns = m :: ms)
    rw [eqvAll_ints ns ms]
    have : PySem.PyData.eqv (.int n) (.int m) = (n == m) := rfl
    rw [this]
    by_cases h : n = m
    · subst h; simp
    · simp [h]
theorem depth_ints : ∀ ns : List Int, PySem.PyData.depthAll (ns.map PyData.int) ≤ 1
  | [] => by decide
  | n :: ns => by
    show max (PySem.PyData.depth (PyData.int n)) (PySem.PyData.depthAll (ns.map PyData.int)) ≤ 1
    have h := depth_ints ns
    have h2 : PySem.PyData.depth (PyData.int n) ≤ 1 := by first | exact Nat.le_refl _ | decide | exact Nat.zero_le _
    omega
theorem shaped_ints (ns : List Int) : SeqAt.shaped (.list (ns.map PyData.int)) = true := by
  unfold SeqAt.shaped
  rw [Bool.and_eq_true]
  refine ⟨canLay_ints ns, decide_eq_true ?_⟩
  have h := depth_ints ns
  show PySem.PyData.depthAll (ns.map PyData.int) + 1 ≤ 64
  omega
section
variable {X : Cx} {k : Nat}
theorem op_eqLI (hr : Rm k X.A) : OpR X (compareOp .Eq) (rEqLI X.K false) := by
  intro pins s σ H x y v u Q I rx ry h
  obtain ⟨a, b, ns, ms, rfl, rfl, h1, h2, q⟩ := h
  refine op_eqD (hu64 hr) pins s σ H _ _ v u Q I rx ry ⟨_, _, dp_ints h1, dp_ints h2, shaped_ints ns, shaped_ints ms, ?_⟩
  have e : PySem.PyData.eqv (.list (ns.map PyData.int)) (.list (ms.map PyData.int)) = decide (ns = ms) := eqvAll_ints ns ms
  rw [e]
  exact q
theorem op_neLI (hr : Rm k X.A) : OpR X (compareOp .NotEq) (rEqLI X.K true) := by
  intro pins s σ H x y v u Q I rx ry h
  obtain ⟨a, b, ns, ms, rfl, rfl, h1, h2, q⟩ := h
  refine op_neD (hu64 hr) pins s σ H _ _ v u Q I rx ry ⟨_, _, dp_ints h1, dp_ints h2, shaped_ints ns, shaped_ints ms, ?_⟩
  have e : PySem.PyData.eqv (.list (ns.map PyData.int)) (.list (ms.map PyData.int)) = decide (ns = ms) := eqvAll_ints ns ms
  rw [e]
  exact q
theorem ip_of {op : Operator} {r : R2} (h : OpR X (inplaceOp op) r) : PIp X op r := h
end

/-! ### own exception classes -/
def clsAt (mg : Str → Option Value) (x : Str) : Addr := match mg x with
  | some (.ref a) => a
  | _ => 0
structure Exc1 (K : PySem.W.Frag) (mg : Str → Option Value) (C : Str → Addr) (c : Str) : Prop where
  g : mg c = some (.ref (C c))
  x : PySem.W.excIn K (C c) [.type "ValueError", .type "Exception", .type "BaseException", .type "object"] "ValueError.__new__" = true
  k : PySem.W.keepIn K (.ref (C c)) = true
  b : PySem.W.subIn K (.ref (C c)) (.type "BaseException") = some true
  t : PySem.W.typeIn K (.ref (C c)) = some (.type "type")
theorem exc1_of {K : PySem.W.Frag} {mg : Str → Option Value} {c : Str} {a : Addr} (g : mg c = some (.ref a)) (x : PySem.W.excIn K a [.type "ValueError", .type "Exception", .type "BaseException", .type "object"] "ValueError.__new__" = true)
    (k : PySem.W.keepIn K (.ref a) = true) (b : PySem.W.subIn K (.ref a) (.type "BaseException") = some true) (t : PySem.W.typeIn K (.ref a) = some (.type "type")) : Exc1 K mg (clsAt mg) c := by
  have e : clsAt mg c = a := by
    unfold clsAt
    rw [g]
  exact ⟨by rw [e]; exact g, by rw [e]; exact x, by rw [e]; exact k, by rw [e]; exact b, by rw [e]; exact t⟩

/-! ### the readings' words -/
section
variable {H : Hp} {Q : VK} {K : PySem.W.Frag} {xs : List V} {x y : V}
theorem b_lenL : rLenL K xs H Q = ∃ p ys, xs = [.ref p] ∧ (SqL K H p ys ∨ SqT K H p ys) ∧ Q (.int ys.length) H := rfl
theorem b_int1b {k : Bool} : rInt1 [.bl k] H Q = Q (.int (if k then 1 else 0)) H := by
  apply propext
  constructor
  · rintro (⟨i, e, _⟩ | ⟨j, e, q⟩)
    · cases e
    · cases e
      exact q
  · exact fun q => Or.inr ⟨k, rfl, q⟩
theorem b_int1i {i : Int} : rInt1 [.int i] H Q = Q (.int i) H := by
  apply propext
  constructor
  · rintro (⟨j, e, q⟩ | ⟨j, e, _⟩)
    · cases e
      exact q
    · cases e
  · exact fun q => Or.inl ⟨i, rfl, q⟩
theorem b_listOf : rListOf K xs H Q = ∃ p ys, xs = [.ref p] ∧ (SqL K H p ys ∨ SqT K H p ys) ∧ ∀ l, H l = none → Q (.ref l) (upd H l (.lst ys)) := rfl
theorem b_max2 {i j : Int} : rMax2 [.int i, .int j] H Q = Q (.int (if j > i then j else i)) H := propext ⟨fun ⟨i', j', e, q⟩ => by cases e; exact q, fun q => ⟨i, j, rfl, q⟩⟩
theorem b_min2 {i j : Int} : rMin2 [.int i, .int j] H Q = Q (.int (if j < i then j else i)) H := propext ⟨fun ⟨i', j', e, q⟩ => by cases e; exact q, fun q => ⟨i, j, rfl, q⟩⟩
theorem b_sum : rSum K xs H Q = ∃ (a : Addr) (ns : List Int), xs = [V.ref a] ∧ SqL K H a (ns.map V.int) ∧ Q (.int ns.sum) H := rfl
theorem b_rep : rRep x y H Q = ∃ l k xs, x = .ref l ∧ y = .int k ∧ H l = some (.lst xs) ∧ -(2 ^ 63) ≤ k ∧ k < 2 ^ 63 ∧ xs.length * k.toNat ≤ sizeLine ∧ ∀ p, H p = none → Q (.ref p) (upd H p (.lst (List.replicate k.toNat xs).flatten)) := rfl
theorem b_eqLI0 : rEqLI K false x y H Q = ∃ (a b : Addr) (ns ms : List Int), x = .ref a ∧ y = .ref b ∧ SqL K H a (ns.map V.int) ∧ SqL K H b (ms.map V.int) ∧ Q (.bl (decide (ns = ms))) H := rfl
theorem b_eqLI1 : rEqLI K true x y H Q = ∃ (a b : Addr) (ns ms : List Int), x = .ref a ∧ y = .ref b ∧ SqL K H a (ns.map V.int) ∧ SqL K H b (ms.map V.int) ∧ Q (.bl (!decide (ns = ms))) H := rfl
theorem scal_ii {i j : Int} : scal (.int i) (.int j) = true := rfl
theorem scal_bb {i j : Bool} : scal (.bl i) (.bl j) = true := rfl
theorem scal_ss {i j : Str} : scal (.str i) (.str j) = true := rfl
theorem b_isN : rIsN x y H Q = (y = .non ∧ Q (.bl (decide (x = .non))) H) := rfl
theorem b_notN : rNotN x y H Q = (y = .non ∧ Q (.bl (!decide (x = .non))) H) := rfl
theorem b_listEnum {σ : L2.St} {te : TE} : tListEnum K te σ H Q = te σ H fun x H1 => ∃ a xs, x = .ref a ∧ SqL K H1 a xs ∧ ∀ P as H2, as.length = xs.length → Led H1 ((P, .lst (as.map V.ref)) :: enF as xs) H2 → Q (.ref P) H2 := rfl
theorem b_raise0 {D : Ends} {σ : L2.St} {E : XK} {c : Value} : tRaise0 E c D σ H = E c none H := rfl
end
end Mi

/-! an exception of a built-in class as a thing; a display of one pair -/
namespace Mi
open PySem PySem.Spec PyProof.Rows L2
/-- an exception of the built-in class ValueError at a -/
def ExV (a : Addr) : HO := .ext fun h => ∃ oe : Obj, h.get? a = some oe ∧ oe.cls = .type "ValueError"
def TyV (K : PySem.W.Frag) (H : Hp) (x : V) (t : Value) : Prop := TyX K H x t ∨ ∃ a : Addr, x = .ref a ∧ t = .type "ValueError" ∧ H a = some (ExV a)
theorem kit_ofV {X : Cx} {pins : List (Addr × Obj)} {σ : L2.St} {H : Hp} {s : Shared} {x : V} {u t : Value} (I : Inv X pins σ H s) (rx : RelV x u) (ty : TyV X.K H x t) : ∃ P : Heap → Prop, PySem.W.KitX X.K u t P ∧ P s.heap ∧ u ≠ .builtin "__main__.__loader__#opaque" := by
  rcases ty with ty | ⟨a, rfl, rfl, ha⟩
  · exact kit_of I rx ty
  · cases (show u = Value.ref a from rx)
    obtain ⟨⟨oe, e, c⟩, _⟩ := I.hok a _ ha
    exact ⟨_, PySem.W.kitx_bexc PySem.F.excAttr_ValueError (by kernel_rfl) (by kernel_rfl) (by decide), ⟨oe, e, c⟩, fun z => nomatch z⟩
def tExcV (t : TE) : TE := fun σ H Q => t σ H fun _ H1 => ∀ a, H1 a = none → Q (.ref a) (upd H1 a (ExV a))
def tDispC (i : Int) (v : V) : TE := fun _ H Q => ∀ p, H p = none → Q (.ref p) (upd H p (.dK [(.inl i, v)]))
section
variable {X : Cx} {x : Str} {e : Expr} {ta : TE} {p pos : Pos}
theorem pe_excV (hg : Gl X x) (hm : X.mg x = none) (hv : bootBuiltins x = some (.type "ValueError")) (ha : PE X e ta) (hn : x ≠ "__name__" := by decide) (hdb : (x == ("__debug__" : Str)) = false := by decide)
    (he : starEach [e] X.env = (false, eval e X.env) :: starEach [] X.env := by rfl) (hpl : (backTo pos (starEach [] X.env)).any (·.1) = false := by rfl) :
    PE X (.Call (.Name x p) [e] [] pos) (tExcV ta) := by
  refine ⟨fun pins s σ H Q I h => ?_⟩
  refine wpAny_Call_Name_kw (ld_blt I hg hm hv ?_ hn hdb)
  refine PyProof.Rows.callWith_type1 (thn ((pa_cons ha pa_nil (hs := he)).run pos pins s σ H (fun vs H1 => vs.length ≤ sizeLine ∧ ∀ a, H1 a = none → Q (.ref a) (upd H1 a (ExV a))) I ?_) fun us s1 hh => ?_) he hpl
  · have e : (fun (x : V) (H1 : Hp) => [x].length ≤ sizeLine ∧ ∀ a, H1 a = none → Q (.ref a) (upd H1 a (ExV a))) = fun _ H1 => ∀ a, H1 a = none → Q (.ref a) (upd H1 a (ExV a)) := by
      funext x H1
      exact propext ⟨fun h => h.2, fun h => ⟨by show 1 ≤ sizeLine; rw [sizeLine_eq]; omega, h⟩⟩
    show ta σ H (fun (x : V) (H1 : Hp) => [x].length ≤ sizeLine ∧ ∀ a, H1 a = none → Q (.ref a) (upd H1 a (ExV a)))
    rw [e]
    exact h
  obtain ⟨vs, H1, I1, r1, q0, q1⟩ := hh
  obtain ⟨hp1, g1, d1, tk1, os1⟩ := s1
  refine wpAny_call_exc exb_ValueError.call (fun h' a mk => ?_) (Nat.le_trans (Nat.le_of_eq r1.length.symm) q0)
  have hn1 : H1 a = none := I1.hok.gone mk.new
  obtain ⟨t, ht, _⟩ := mk.there
  exact ⟨.ref a, upd H1 a (ExV a), I1.laidN mk.keeps mk.new hn1 ⟨⟨_, ht, rfl⟩, ⟨_, ht⟩, fun _ _ ⟨o, q, r⟩ k => ⟨o, k o q, r⟩⟩, rfl, q1 a hn1⟩
theorem pe_dispC {k v : Expr} {i : Int} {w : V} (hk : PE X k (tC (.int i))) (hv : PE X v (tC w)) : PE X (.Dict [some k] [v] pos) (tDispC i w) := by
  refine ⟨fun pins s σ H Q I h => (pe_disp (pps_cons hk hv pps_nil) rfl rfl (by simp) (show 1 ≤ 15 by decide)).run pins s σ H Q I ?_⟩
  intro p hp
  refine ⟨upd_same, [(.inl i, w)], rfl, show 1 ≤ 15 by decide, ?_⟩
  have e : upd (upd H p (.dK [])) p (.dK (mergeK [] [(.inl i, w)])) = upd H p (.dK [(.inl i, w)]) := by
    funext b
    by_cases c : b = p
    · rw [c, upd_same, upd_same]
      rfl
    · rw [upd_ne c, upd_ne c, upd_ne c]
  rw [e]
  exact h p hp
def tDispV (j : Nat) (v : V) : TE := fun σ H Q => ∃ i : Int, σ[j]? = some (some (.int i)) ∧ ∀ p, H p = none → Q (.ref p) (upd H p (.dK [(.inl i, v)]))
theorem pe_dispV {k v : Expr} {j : Nat} {w : V} (hk : PE X k (tVar j)) (hv : PE X v (tC w)) : PE X (.Dict [some k] [v] pos) (tDispV j w) := by
  refine ⟨fun pins s σ H Q I h => (pe_disp (pps_cons hk hv pps_nil) rfl rfl (by simp) (show 1 ≤ 15 by decide)).run pins s σ H Q I ?_⟩
  obtain ⟨i, hi, h⟩ := h
  intro p hp
  refine ⟨_, hi, upd_same, [(.inl i, w)], rfl, show 1 ≤ 15 by decide, ?_⟩
  have e : upd (upd H p (.dK [])) p (.dK (mergeK [] [(.inl i, w)])) = upd H p (.dK [(.inl i, w)]) := by
    funext b
    by_cases c : b = p
    · rw [c, upd_same, upd_same]
      rfl
    · rw [upd_ne c, upd_ne c, upd_ne c]
  rw [e]
  exact h p hp
theorem a_dispV {j : Nat} {v : V} {σ : L2.St} {H : Hp} {Q : VK} : tDispV j v σ H Q = ∃ i : Int, σ[j]? = some (some (.int i)) ∧ ∀ p, H p = none → Q (.ref p) (upd H p (.dK [(.inl i, v)])) := rfl
theorem a_excV {t : TE} {σ : L2.St} {H : Hp} {Q : VK} : tExcV t σ H Q = t σ H fun _ H1 => ∀ a, H1 a = none → Q (.ref a) (upd H1 a (ExV a)) := rfl
theorem a_dispC {i : Int} {v : V} {σ : L2.St} {H : Hp} {Q : VK} : tDispC i v σ H Q = ∀ p, H p = none → Q (.ref p) (upd H p (.dK [(.inl i, v)])) := rfl
end
end Mi

/-! figures of numbers -/
namespace Mi
/-- figures, the least place first -/
def digs (b n : Nat) : List Nat := if h : 2 ≤ b ∧ b ≤ n then (n % b) :: digs b (n / b) else [n]
termination_by n
decreasing_by exact Nat.div_lt_self (by omega) (by omega)
def figs (b n : Nat) : List Nat := (digs b n).reverse
def val (b : Nat) (l : List Nat) : Nat := l.foldl (fun a d => a * b + d) 0
/-- the least place first -/
def vall (b : Nat) : List Nat → Nat
  | [] => 0
  | d :: l => d + b * vall b l
theorem digs_lt {b n : Nat} (h : n < b) : digs b n = [n] := by
  rw [digs, dif_neg (by omega)]
theorem digs_ge {b n : Nat} (hb : 2 ≤ b) (h : b ≤ n) : digs b n = (n % b) :: digs b (n / b) := by
  rw [digs, dif_pos ⟨hb, h⟩]
theorem digs_pos {b n : Nat} (hb : 2 ≤ b) (hn : 0 < n / b) : digs b n = (n % b) :: digs b (n / b) := by
  apply digs_ge hb
  exact Nat.le_of_not_lt fun z => by
    rw [Nat.div_eq_of_lt z] at hn
    omega
theorem digs_ne {b n : Nat} : digs b n ≠ [] := by
  rw [digs]
  split <;> simp
theorem vall_digs {b : Nat} (hb : 2 ≤ b) (n : Nat) : vall b (digs b n) = n := by
  induction n using Nat.strongRecOn with
  | _ n ih =>
    by_cases h : b ≤ n
    · rw [digs_ge hb h, vall, ih _ (Nat.div_lt_self (by omega) (by omega))]
      exact Nat.mod_add_div n b
    · rw [digs_lt (by omega)]
      simp [vall]
theorem digs_bd {b : Nat} (hb : 2 ≤ b) (n : Nat) : ∀ d ∈ digs b n, d < b := by
  induction n using Nat.strongRecOn with
  | _ n ih =>
    intro d hd
    by_cases h : b ≤ n
    · rw [digs_ge hb h] at hd
      rcases List.mem_cons.mp hd with e | e
      · subst e
        exact Nat.mod_lt _ (by omega)
      · exact ih _ (Nat.div_lt_self (by omega) (by omega)) d e
    · rw [digs_lt (by omega)] at hd
      rcases List.mem_cons.mp hd with e | e
      · omega
      · cases e
/-- the greatest figure is above 0 but of 0 -/
theorem digs_last {b : Nat} (hb : 2 ≤ b) (n : Nat) (hn : 0 < n) : ∀ d, (digs b n).getLast? = some d → 0 < d := by
  induction n using Nat.strongRecOn with
  | _ n ih =>
    intro d hd
    by_cases h : b ≤ n
    · rw [digs_ge hb h] at hd
      have q : 0 < n / b := Nat.div_pos h (by omega)
      obtain ⟨x, l, e⟩ : ∃ x l, digs b (n / b) = x :: l := by
        cases e : digs b (n / b) with
        | nil => exact absurd e digs_ne
        | cons x l => exact ⟨x, l, rfl⟩
      have ih' := ih _ (Nat.div_lt_self (by omega) (by omega)) q d
      rw [e] at hd ih'
      rw [List.getLast?_cons_cons] at hd
      exact ih' hd
    · rw [digs_lt (by omega)] at hd
      simp at hd
      omega
/-- figures below the base, the last one above 0 or the only one, are a number's -/
theorem digs_vall {b : Nat} (hb : 2 ≤ b) : ∀ (l : List Nat), l ≠ [] → (∀ d ∈ l, d < b) → (l.length = 1 ∨ ∀ d, l.getLast? = some d → 0 < d) → digs b (vall b l) = l
  | [], h, _, _ => absurd rfl h
  | [d], _, hb', _ => by
    have : d < b := hb' d (by simp)
    simp only [vall, Nat.mul_zero, Nat.add_zero]
    exact digs_lt this
  | d :: e :: l, _, hb', hl => by
    have hd : d < b := hb' d (by simp)
    have hl' : ∀ x, (e :: l).getLast? = some x → 0 < x := by
      rcases hl with z | z
      · simp at z
      · intro x hx
        exact z x (by rw [List.getLast?_cons_cons]; exact hx)
    have hpos : 0 < vall b (e :: l) := by
      have : ∀ (l : List Nat), l ≠ [] → (∀ x, l.getLast? = some x → 0 < x) → 0 < vall b l := by
        intro l
        induction l with
        | nil => intro h; exact absurd rfl h
        | cons a l ih =>
          intro _ h
          cases l with
          | nil =>
            have := h a (by simp)
            simp only [vall]
            omega
          | cons c l =>
            have z := ih (by simp) (fun x hx => h x (by rw [List.getLast?_cons_cons]; exact hx))
            simp only [vall] at z ⊢
            have : 0 < b * (c + b * vall b l) := Nat.mul_pos (by omega) z
            omega
      exact this _ (by simp) hl'
    have ih := digs_vall hb (e :: l) (by simp) (fun x hx => hb' x (List.mem_cons_of_mem _ hx)) (Or.inr hl')
    have e1 : vall b (d :: e :: l) = d + b * vall b (e :: l) := rfl
    have e2 : (d + b * vall b (e :: l)) / b = vall b (e :: l) := by
      rw [Nat.add_mul_div_left _ _ (by omega), Nat.div_eq_of_lt hd, Nat.zero_add]
    have e3 : (d + b * vall b (e :: l)) % b = d := by
      rw [Nat.add_mul_mod_self_left, Nat.mod_eq_of_lt hd]
    have hge : b ≤ d + b * vall b (e :: l) := by
      have : b * 1 ≤ b * vall b (e :: l) := Nat.mul_le_mul_left b hpos
      omega
    rw [e1, digs_ge hb hge, e2, e3, ih]
theorem foldl_val (b : Nat) : ∀ (l : List Nat) (a : Nat), l.foldl (fun a d => a * b + d) a = a * b ^ l.length + val b l
  | [], a => by simp [val]
  | d :: l, a => by
    unfold val
    rw [List.foldl_cons, List.foldl_cons, foldl_val b l (a * b + d), foldl_val b l (0 * b + d)]
    simp only [List.length_cons, Nat.pow_succ, Nat.zero_mul, Nat.zero_add, Nat.add_mul]
    rw [Nat.mul_assoc, Nat.mul_comm b, Nat.add_assoc]
theorem val_append (b : Nat) (l m : List Nat) : val b (l ++ m) = val b l * b ^ m.length + val b m := by
  unfold val
  rw [List.foldl_append, foldl_val]
  rfl
theorem val_one (b d : Nat) : val b [d] = d := by simp [val]
theorem val_cons (b d : Nat) (l : List Nat) : val b (d :: l) = d * b ^ l.length + val b l := by
  have := val_append b [d] l
  rw [val_one] at this
  exact this
theorem val_reverse (b : Nat) : ∀ l : List Nat, val b l.reverse = vall b l
  | [] => rfl
  | d :: l => by
    rw [List.reverse_cons, val_append, val_one, val_reverse b l]
    simp only [List.length_singleton, Nat.pow_one, vall]
    rw [Nat.mul_comm, Nat.add_comm]
theorem val_figs {b : Nat} (hb : 2 ≤ b) (n : Nat) : val b (figs b n) = n := by
  unfold figs
  rw [val_reverse, vall_digs hb]
theorem figs_bd {b : Nat} (hb : 2 ≤ b) (n : Nat) : ∀ d ∈ figs b n, d < b := fun d hd => digs_bd hb n d (List.mem_reverse.mp hd)
theorem figs_ne {b n : Nat} : figs b n ≠ [] := by
  unfold figs
  rw [ne_eq, List.reverse_eq_nil_iff]
  exact digs_ne
theorem figs_head {b : Nat} (hb : 2 ≤ b) (n : Nat) (hn : 0 < n) : ∀ d, (figs b n).head? = some d → 0 < d := by
  intro d hd
  unfold figs at hd
  rw [List.head?_reverse] at hd
  exact digs_last hb n hn d hd
theorem figs_val {b : Nat} (hb : 2 ≤ b) (l : List Nat) (h0 : l ≠ []) (h1 : ∀ d ∈ l, d < b) (h2 : l.length = 1 ∨ ∀ d, l.head? = some d → 0 < d) : figs b (val b l) = l := by
  have e : val b l = vall b l.reverse := by rw [← val_reverse, List.reverse_reverse]
  unfold figs
  rw [e, digs_vall hb l.reverse (by rw [ne_eq, List.reverse_eq_nil_iff]; exact h0) (fun d hd => h1 d (List.mem_reverse.mp hd)) (by
    rcases h2 with h | h
    · exact Or.inl (by rw [List.length_reverse]; exact h)
    · exact Or.inr fun d hd => h d (by rw [List.getLast?_reverse] at hd; exact hd)), List.reverse_reverse]
theorem val_lt {b : Nat} (hb : 0 < b) : ∀ (l : List Nat), (∀ d ∈ l, d < b) → val b l < b ^ l.length
  | [], _ => by simp [val]
  | d :: l, h => by
    rw [val_cons, List.length_cons, Nat.pow_succ]
    have h1 := val_lt hb l (fun x hx => h x (List.mem_cons_of_mem _ hx))
    have h2 : d < b := h d (by simp)
    calc d * b ^ l.length + val b l < d * b ^ l.length + b ^ l.length := Nat.add_lt_add_left h1 _
      _ = (d + 1) * b ^ l.length := by rw [Nat.add_mul, Nat.one_mul]
      _ ≤ b * b ^ l.length := Nat.mul_le_mul_right _ h2
      _ = b ^ l.length * b := Nat.mul_comm _ _
theorem figs_len_pos {b n : Nat} : 0 < (figs b n).length := List.length_pos_iff.mpr figs_ne
theorem lt_pow_figs {b : Nat} (hb : 2 ≤ b) (n : Nat) : n < b ^ (figs b n).length := by
  have := val_lt (by omega) (figs b n) (figs_bd hb n)
  rwa [val_figs hb] at this
theorem pow_le_figs {b : Nat} (hb : 2 ≤ b) (n : Nat) (hn : 0 < n) : b ^ ((figs b n).length - 1) ≤ n := by
  cases e : figs b n with
  | nil => exact absurd e figs_ne
  | cons d l =>
    have h := figs_head hb n hn d (by rw [e]; rfl)
    have v := val_figs hb n
    rw [e, val_cons] at v
    rw [List.length_cons, Nat.add_sub_cancel]
    calc b ^ l.length = 1 * b ^ l.length := (Nat.one_mul _).symm
      _ ≤ d * b ^ l.length := Nat.mul_le_mul_right _ h
      _ ≤ n := by omega
/-- how long -/
theorem figs_len {b : Nat} (hb : 2 ≤ b) {n k : Nat} (h : n < b ^ k) (hk : 0 < k) : (figs b n).length ≤ k := by
  by_cases hn : n = 0
  · subst hn
    have : figs b 0 = [0] := by
      unfold figs
      rw [digs_lt (by omega)]
      rfl
    rw [this]
    exact hk
  · have h1 := pow_le_figs hb n (by omega)
    have h2 : (figs b n).length - 1 < k := (Nat.pow_lt_pow_iff_right hb).mp (Nat.lt_of_le_of_lt h1 h)
    omega
def lim : Nat := 10 ^ 200
theorem lim_pow : lim < 2 ^ 700 := by decide +kernel
theorem figs_len_lim {b n : Nat} (hb : 2 ≤ b) (h : n < lim) : (figs b n).length ≤ 700 :=
  figs_len hb (Nat.lt_of_lt_of_le (Nat.lt_trans h lim_pow) (Nat.pow_le_pow_left hb 700)) (by decide)
theorem digs_len_lim {b n : Nat} (hb : 2 ≤ b) (h : n < lim) : (digs b n).length ≤ 700 := by
  have := figs_len_lim hb h
  unfold figs at this
  rwa [List.length_reverse] at this
/-- mirrored -/
def mir (b n : Nat) : Bool := decide (figs b n = (figs b n).reverse)
end Mi

/-! what the defs promise, first part -/
namespace Mi
open PySem PySem.Spec PyProof.Rows L2

/-- a thing's type, as isinstance asks it -/
abbrev TyY (K : PySem.W.Frag) (H : Hp) : V → Value → Prop := TyV K H
def rIsiY (K : PySem.W.Frag) : List V → Hp → VK → Prop := fun xs H Q => ∃ (x c : V) (t u : Value) (b : Bool), xs = [x, c] ∧ ClsV c u ∧ TyY K H x t ∧ PySem.W.kitOne K t u = some b ∧ Q (.bl b) H
theorem call_isiY {X : Cx} : CallR X (.builtin "isinstance") (rIsiY X.K) := by
  intro pins s σ H xs us Q I r h
  obtain ⟨x, c, t, u, b, rfl, k, ty, e, q⟩ := h
  obtain ⟨u1, u2, rfl, r1, r2⟩ := vals2 r
  cases k.eq r2
  obtain ⟨P, Z, p, hx⟩ := kit_ofV I r1 ty
  exact PySem.W.kia_one Z I.kIn p e hx fun tk => ⟨.bl b, H, I.tok tk, rfl, q⟩
/-- a thing of which it is known that it is no int, by its type, if it is none by its form -/
def Kn (K : PySem.W.Frag) (H : Hp) : V → Prop
  | .ref a => ∃ t, TyY K H (.ref a) t ∧ PySem.W.kitOne K t (.type "int") = some false ∧ PySem.W.kitOne K t (.type "bool") = some false
  | .non => True
  | .bl _ => True
  | .int _ => True
  | .str _ => True
  | _ => False
def isInt : V → Bool
  | .int _ => true
  | _ => false
def isIB : V → Bool
  | .int _ => true
  | .bl _ => true
  | _ => false
def isBl : V → Bool
  | .bl _ => true
  | _ => false
theorem kn_int {K : PySem.W.Frag} {H : Hp} {x : V} (h : Kn K H x) : ∃ t, TyY K H x t ∧ PySem.W.kitOne K t (.type "int") = some (isIB x) := by
  cases x with
  | ref a =>
    obtain ⟨t, h1, h2, _⟩ := h
    exact ⟨t, h1, h2⟩
  | non => exact ⟨_, .inl (.base .non), kit_ty (by decide +kernel)⟩
  | bl b => exact ⟨_, .inl (.base (.bl b)), kit_ty (r := true) (by decide +kernel)⟩
  | int i => exact ⟨_, .inl (.base (.int i)), kit_ty (r := true) (by decide +kernel)⟩
  | str s => exact ⟨_, .inl (.base (.str s)), kit_ty (r := false) (by decide +kernel)⟩
  | _ => exact h.elim
theorem kn_bool {K : PySem.W.Frag} {H : Hp} {x : V} (h : Kn K H x) : ∃ t, TyY K H x t ∧ PySem.W.kitOne K t (.type "bool") = some (isBl x) := by
  cases x with
  | ref a =>
    obtain ⟨t, h1, _, h2⟩ := h
    exact ⟨t, h1, h2⟩
  | non => exact ⟨_, .inl (.base .non), kit_ty (by decide +kernel)⟩
  | bl b => exact ⟨_, .inl (.base (.bl b)), kit_ty (r := true) (by decide +kernel)⟩
  | int i => exact ⟨_, .inl (.base (.int i)), kit_ty (r := false) (by decide +kernel)⟩
  | str s => exact ⟨_, .inl (.base (.str s)), kit_ty (r := false) (by decide +kernel)⟩
  | _ => exact h.elim
theorem isi_int {K : PySem.W.Frag} {H : Hp} {x : V} {Q : VK} (h : Kn K H x) (q : Q (.bl (isIB x)) H) : rIsiY K [x, .ty "int"] H Q := by
  obtain ⟨t, h1, h2⟩ := kn_int h
  exact ⟨x, .ty "int", t, .type "int", _, rfl, .ty _, h1, h2, q⟩
theorem isi_bool {K : PySem.W.Frag} {H : Hp} {x : V} {Q : VK} (h : Kn K H x) (q : Q (.bl (isBl x)) H) : rIsiY K [x, .ty "bool"] H Q := by
  obtain ⟨t, h1, h2⟩ := kn_bool h
  exact ⟨x, .ty "bool", t, .type "bool", _, rfl, .ty _, h1, h2, q⟩
theorem isi_list {K : PySem.W.Frag} {H : Hp} {a : Addr} {xs : List V} {Q : VK} (h : H a = some (.lst xs)) (q : Q (.bl true) H) : rIsiY K [.ref a, .ty "list"] H Q :=
  ⟨.ref a, .ty "list", _, .type "list", _, rfl, .ty _, .inl (.base (.lst h)), kit_ty (by decide +kernel), q⟩
theorem _root_.L2.TyX.mono_ {K : PySem.W.Frag} {B H : Hp} {F : List (Addr × HO)} {x : V} {t : Value} (L : Led B F H) (h1 : TyX K B x t) : TyX K H x t := by
  cases h1 with
  | base b =>
    refine .base ?_
    cases b with
    | non => exact .non
    | bl b => exact .bl b
    | int i => exact .int i
    | str i => exact .str i
    | flt i => exact .flt i
    | lst e => exact .lst (L.base _ _ e)
    | frz e => exact .frz (L.base _ _ e)
    | tup e => exact .tup (L.base _ _ e)
    | dK e => exact .dK (L.base _ _ e)
    | dT e => exact .dT (L.base _ _ e)
    | ins e a b c d f => exact .ins (L.base _ _ e) a b c d f
  | byt b => exact .byt b
  | set e => exact .set (L.base _ _ e)
  | kList e c => exact .kList e c
  | kTuple e c => exact .kTuple e c
  | kDict e c => exact .kDict e c
  | fTuple e => exact .fTuple (L.base _ _ e)
  | fDict e => exact .fDict (L.base _ _ e)
theorem _root_.Mi.TyV.mono {K : PySem.W.Frag} {B H : Hp} {F : List (Addr × HO)} {x : V} {t : Value} (L : Led B F H) (h1 : TyV K B x t) : TyV K H x t := by
  rcases h1 with h | ⟨a, e1, e2, h⟩
  · exact .inl (h.mono_ L)
  · exact .inr ⟨a, e1, e2, L.base _ _ h⟩
theorem Kn.mono {K : PySem.W.Frag} {B H : Hp} {F : List (Addr × HO)} {x : V} (L : Led B F H) (h : Kn K B x) : Kn K H x := by
  cases x with
  | ref a =>
    obtain ⟨t, h1, h2⟩ := h
    exact ⟨t, h1.mono L, h2⟩
  | _ => exact h
def isBase : V → Bool
  | .int b => decide (2 ≤ b) && decide (b ≤ 36)
  | _ => false
/-- ints from naturals -/
def nints (l : List Nat) : List V := (l.map fun (d : Nat) => (d : Int)).map V.int

section

def sp_is_whole (K : PySem.W.Frag) (C : Str → Addr) : Sp := fun vs H Q E => ∃ x, vs = [x] ∧ Kn K H x ∧ Q (.bl (isInt x)) H
def sp_need_base (K : PySem.W.Frag) (C : Str → Addr) : Sp := fun vs H Q E => ∃ x, vs = [x] ∧ Kn K H x ∧ (isBase x = true → Q .non H) ∧ (isBase x = false → E (.ref (C "NoBase")) none H)
def sp_figures_of (K : PySem.W.Frag) (C : Str → Addr) : Sp := fun vs H Q E => ∃ n b : Nat, vs = [.int n, .int b] ∧ 2 ≤ b ∧ b ≤ 36 ∧ n < lim ∧ ∀ p H', Led H [(p, .lst (nints (figs b n)))] H' → Q (.ref p) H'
def sp_put_together (K : PySem.W.Frag) (C : Str → Addr) : Sp := fun vs H Q E => ∃ (a : Addr) (l : List Nat) (b : Nat), vs = [.ref a, .int b] ∧ SqL K H a (nints l) ∧ b ≤ 36 ∧ Q (.int (val b l)) H
def sp_figures (K : PySem.W.Frag) (C : Str → Addr) : Sp := fun vs H Q E => ∃ (n : Nat) (x : V), vs = [.int n, x] ∧ Kn K H x ∧ n < lim ∧ (isBase x = false → E (.ref (C "NoBase")) none H) ∧ ∀ b : Nat, x = .int b → 2 ≤ b → b ≤ 36 → ∀ p H', Led H [(p, .lst (nints (figs b n)))] H' → Q (.ref p) H'
/-- of a list of whole numbers that are figures -/
def sp_number_of (K : PySem.W.Frag) (C : Str → Addr) : Sp := fun vs H Q E => ∃ (a : Addr) (l : List Nat) (b : Nat), vs = [.ref a, .int b] ∧ H a = some (.lst (nints l)) ∧ 2 ≤ b ∧ b ≤ 36 ∧ l ≠ [] ∧ (∀ d ∈ l, d < b) ∧ (l.length = 1 ∨ ∀ d, l.head? = some d → 0 < d) ∧ l.length ≤ 1000000 ∧ ∀ H', Led H [] H' → Q (.int (val b l)) H'
/-- the draws: what is drawn lies below the limit -/
def Hand (H : Hp) (a : Addr) : Prop := ∃ d m : Nat, m < 2147483587 ∧ H a = some (.lst [.int d, .int m])
def sp__law_hand (K : PySem.W.Frag) (C : Str → Addr) : Sp := fun vs H Q E => ∃ (c : Int) (k : Nat), vs = [.int c, .int k] ∧ k ≤ 1000 ∧ ∀ p H' (d m : Nat), m < 2147483587 → Led H [(p, .lst [.int d, .int m])] H' → Q (.ref p) H'
def sp__law_draw (K : PySem.W.Frag) (C : Str → Addr) : Sp := fun vs H Q E => ∃ (a : Addr) (d m l : Nat), vs = [.ref a, .int l] ∧ H a = some (.lst [.int d, .int m]) ∧ m < 2147483587 ∧ 0 < l ∧ l < 1073741824 ∧
  ∀ H' (d' m' g : Nat), m' < 2147483587 → g < l → Led (rmv H a) [(a, .lst [.int d', .int m'])] H' → Q (.int g) H'
def sp__law_cells (K : PySem.W.Frag) (C : Str → Addr) : Sp := fun vs H Q E => ∃ (a : Addr) (ns : List Int) (m : Nat), vs = [.ref a, .int m] ∧ SqL K H a (ns.map V.int) ∧ ns.length ≤ 63 ∧ m ≤ 63 ∧
  ∀ P as (cs : List Int) H', as.length = cs.length → cs.length ≤ 64 → Led H ((P, .lst (as.map V.ref)) :: enF as (cs.map V.int)) H' → Q (.ref P) H'
def sp__law_base (K : PySem.W.Frag) (C : Str → Addr) : Sp := fun vs H Q E => ∃ (a : Addr) (d m : Nat), vs = [.ref a] ∧ H a = some (.lst [.int d, .int m]) ∧ m < 2147483587 ∧
  ∀ H' (d' m' b : Nat), m' < 2147483587 → 2 ≤ b → b ≤ 36 → Led (rmv H a) [(a, .lst [.int d', .int m'])] H' → Q (.int b) H'
def sp__law_power (K : PySem.W.Frag) (C : Str → Addr) : Sp := fun vs H Q E => ∃ b m : Nat, vs = [.int b, .int m] ∧ b ≤ 36 ∧ m ≤ 100000 ∧ Q (.int ((b ^ m : Nat))) H
def sp__law_figures (K : PySem.W.Frag) (C : Str → Addr) : Sp := sp_figures_of K C
def sp__law_value (K : PySem.W.Frag) (C : Str → Addr) : Sp := fun vs H Q E => ∃ (a : Addr) (l : List Nat) (b : Nat), vs = [.ref a, .int b] ∧ SqL K H a (nints l) ∧ b ≤ 36 ∧ (∀ d ∈ l, d ≤ 36) ∧ l.length ≤ 100000 ∧ ∀ H', Led H [] H' → Q (.int (val b l)) H'
end
end Mi

namespace Mi
open PySem PySem.Spec PyProof.Rows L2
def t_is_whole (K : PySem.W.Frag) (C : Str → Addr) (E : XK) : TS :=
  (tRet (tAndV (tCB (rIsiY K) (tCons (tVar 0) (tCons (tC (.ty "int")) tNil))) (tNotV (tCB (rIsiY K) (tCons (tVar 0) (tCons (tC (.ty "bool")) tNil))))))
def t_need_base (K : PySem.W.Frag) (C : Str → Addr) (E : XK) : TS :=
  (tIfS (tOr (tNot (tB (tGo (sp_is_whole K C) (fun _ => E0) (tCons (tVar 0) tNil)))) (tNot (tTest (tChain (rI0 fun i j => .bl (decide (i ≤ j))) (rI0 fun i j => .bl (decide (i ≤ j))) (tC (.int 2)) (tVar 0) (tC (.int 36)))))) (tRaise0 E (.ref (C "NoBase"))) tNext)
def t_put_together (K : PySem.W.Frag) (C : Str → Addr) (E : XK) : TS :=
  (tSeq (tAsg (tC (.int 0)) (gName 2))
    (tSeq (tFor (iList K (tVar 0)) (gName 3) (tAsg (tOp (rI0 fun i j => .int (i + j)) (tOp (rI CMul fun i j => .int (i * j)) (tVar 2) (tVar 1)) (tVar 3)) (gName 2)))
    (tRet (tVar 2))))
def t_number_of (K : PySem.W.Frag) (C : Str → Addr) (E : XK) : TS :=
  (tSeq (tDrop (tGo (sp_need_base K C) (fun _ => E) (tCons (tVar 1) tNil)))
    (tSeq (tIfS (tOr (tNot (tB (tCB (rIsiY K) (tCons (tVar 0) (tCons (tC (.ty "list")) tNil))))) (tOr (tTest (tOp (rEqLI K false) (tVar 0) (tLst tNil))) (tTest (tOp (rEqLI K true) (tLc (iList K (tVar 0)) (gName 2) (tNot (tB (tGo (sp_is_whole K C) (fun _ => E0) (tCons (tVar 2) tNil)))) (tVar 2) [2]) (tLst tNil))))) (tRaise0 E (.ref (C "NoNumber"))) tNext)
    (tSeq (tIfS (tOr (tTest (tOp (rEqLI K true) (tLc (iList K (tVar 0)) (gName 2) (tNot (tTest (tChain (rI0 fun i j => .bl (decide (i ≤ j))) (rI0 fun i j => .bl (decide (i < j))) (tC (.int 0)) (tVar 2) (tVar 1)))) (tVar 2) [2]) (tLst tNil))) (tAnd (tTest (tOp rEq (tOp (rIxL K) (tVar 0) (tC (.int 0))) (tC (.int 0)))) (tTest (tOp (rI0 fun i j => .bl (decide (j < i))) (tCB (rLenL K) (tCons (tVar 0) tNil)) (tC (.int 1)))))) (tRaise0 E (.ref (C "NoNumber"))) tNext)
    (tRet (tGo (sp_put_together K C) (fun _ => E0) (tCons (tVar 0) (tCons (tVar 1) tNil)))))))
def t__law_hand (K : PySem.W.Frag) (C : Str → Addr) (E : XK) : TS :=
  (tSeq (tAsg (tC (.int 0)) (gName 2))
    (tSeq (tIfS (tTest (tOp (rI0 fun i j => .bl (decide (j ≤ i))) (tVar 0) (tOp (rI CPow fun i j => .int (i ^ j.toNat)) (tC (.int 10)) (tC (.int 18))))) (tAsg (tVar 0) (gName 2)) tNext)
    (tRet (tLst (tCons (tVar 2) (tCons (tOp (rI (fun _ j => 0 < j) fun i j => .int (i % j)) (tOp (rI CMul fun i j => .int (i * j)) (tOp (rI0 fun i j => .int (i + j)) (tOp (rI0 fun i j => .int (i + j)) (tOp (rI (fun _ j => 0 < j) fun i j => .int (i % j)) (tVar 0) (tC (.int 2147483587))) (tOp (rI CMul fun i j => .int (i * j)) (tC (.int 7919)) (tVar 1))) (tC (.int 1))) (tC (.int 48271))) (tC (.int 2147483587))) tNil))))))
def t__law_draw (K : PySem.W.Frag) (C : Str → Addr) (E : XK) : TS :=
  (tSeq (tIfS (tTest (tOp (rI0 fun i j => .bl (decide (j < i))) (tOp (rIxL K) (tVar 0) (tC (.int 0))) (tC (.int 0)))) (tSeq (tAsg (tOp (rI (fun _ j => 0 < j) fun i j => .int (i % j)) (tOp (rIxL K) (tVar 0) (tC (.int 0))) (tVar 1)) (gName 2))
    (tSeq (tAsg (tOp (rI CDiv fun i j => .int (i / j)) (tOp (rIxL K) (tVar 0) (tC (.int 0))) (tVar 1)) (gSub (tVar 0) (tC (.int 0)) rSetL))
    (tRet (tVar 2)))) tNext)
    (tSeq (tAsg (tOp (rI (fun _ j => 0 < j) fun i j => .int (i % j)) (tOp (rI0 fun i j => .int (i + j)) (tOp (rI0 fun i j => .int (i + j)) (tOp (rI CMul fun i j => .int (i * j)) (tOp (rIxL K) (tVar 0) (tC (.int 1))) (tOp (rIxL K) (tVar 0) (tC (.int 1)))) (tOp (rI CMul fun i j => .int (i * j)) (tC (.int 69621)) (tOp (rIxL K) (tVar 0) (tC (.int 1))))) (tC (.int 12345))) (tC (.int 2147483587))) (gSub (tVar 0) (tC (.int 1)) rSetL))
    (tRet (tOp (rI (fun _ j => 0 < j) fun i j => .int (i % j)) (tOp (rI CDiv fun i j => .int (i / j)) (tOp (rIxL K) (tVar 0) (tC (.int 1))) (tC (.int 8))) (tVar 1)))))
def t__law_cells (K : PySem.W.Frag) (C : Str → Addr) (E : XK) : TS :=
  (tRet (tListEnum K (tOp rCat (tSl (rSlL K) (tVar 0) tNoPart (tPart (tVar 1))) (tOp rRep (tLst (tCons (tC (.int 0)) tNil)) (tCB rInt1 (tCons (tOp (rEqLI K false) (tVar 0) (tLst tNil)) tNil))))))
def t__law_base (K : PySem.W.Frag) (C : Str → Addr) (E : XK) : TS :=
  (tSeq (tAsg (tOp (rIxL K) (tLst (tCons (tC (.int 2)) (tCons (tC (.int 36)) (tCons (tC (.int 3)) (tCons (tC (.int 16)) tNil))))) (tGo (sp__law_draw K C) (fun _ => E0) (tCons (tVar 0) (tCons (tC (.int 4)) tNil)))) (gName 1))
    (tRet (tOp (rIxL K) (tLst (tCons (tOp (rI0 fun i j => .int (i + j)) (tC (.int 2)) (tGo (sp__law_draw K C) (fun _ => E0) (tCons (tVar 0) (tCons (tC (.int 35)) tNil)))) (tCons (tC (.int 10)) (tCons (tOp (rI0 fun i j => .int (i + j)) (tC (.int 2)) (tGo (sp__law_draw K C) (fun _ => E0) (tCons (tVar 0) (tCons (tC (.int 35)) tNil)))) (tCons (tVar 1) tNil))))) (tGo (sp__law_draw K C) (fun _ => E0) (tCons (tVar 0) (tCons (tC (.int 4)) tNil))))))
def t__law_power (K : PySem.W.Frag) (C : Str → Addr) (E : XK) : TS :=
  (tSeq (tAsg (tC (.int 1)) (gName 2))
    (tSeq (tFor (iRng1 (tCons (tVar 1) tNil)) (gName 3) (tAsg (tOp (rI CMul fun i j => .int (i * j)) (tVar 2) (tVar 0)) (gName 2)))
    (tRet (tVar 2))))
def t__law_figures (K : PySem.W.Frag) (C : Str → Addr) (E : XK) : TS :=
  (tSeq (tAsg (tLst (tCons (tOp (rI (fun _ j => 0 < j) fun i j => .int (i % j)) (tVar 0) (tVar 1)) tNil)) (gName 2))
    (tSeq (tAsg (tOp (rI CDiv fun i j => .int (i / j)) (tVar 0) (tVar 1)) (gName 3))
    (tSeq (tWhile (tTest (tOp (rI0 fun i j => .bl (decide (j < i))) (tVar 3) (tC (.int 0)))) (tSeq (tDrop (tBM K "list" rAppend (tVar 2) (tCons (tOp (rI (fun _ j => 0 < j) fun i j => .int (i % j)) (tVar 3) (tVar 1)) tNil)))
    (tAsg (tOp (rI CDiv fun i j => .int (i / j)) (tVar 3) (tVar 1)) (gName 3))))
    (tRet (tRevL K (tVar 2))))))
def t__law_value (K : PySem.W.Frag) (C : Str → Addr) (E : XK) : TS :=
  (tRet (tCB (rSum K) (tCons (tLc (iEnum K (tCons (tVar 0) tNil)) (gTup K 2 (gCons (gName 2) (gCons (gName 3) gNil))) tYes (tOp (rI CMul fun i j => .int (i * j)) (tVar 3) (tGo (sp__law_power K C) (fun _ => E0) (tCons (tVar 1) (tCons (tOp (rI0 fun i j => .int (i - j)) (tOp (rI0 fun i j => .int (i - j)) (tCB (rLenL K) (tCons (tVar 0) tNil)) (tC (.int 1))) (tVar 2)) tNil)))) [2, 3]) tNil)))
def t_figures_of (K : PySem.W.Frag) (C : Str → Addr) (E : XK) : TS :=
  (tSeq (tAsg (tLst (tCons (tOp (rI (fun _ j => 0 < j) fun i j => .int (i % j)) (tVar 0) (tVar 1)) tNil)) (gName 2))
    (tSeq (tWhile (tTest (tOp (rI0 fun i j => .bl (decide (j ≤ i))) (tVar 0) (tVar 1))) (tSeq (tAug 0 (tVar 1) (rI CDiv fun i j => .int (i / j)))
    (tDrop (tBM K "list" rAppend (tVar 2) (tCons (tOp (rI (fun _ j => 0 < j) fun i j => .int (i % j)) (tVar 0) (tVar 1)) tNil)))))
    (tRet (tRevL K (tVar 2)))))
def t_figures (K : PySem.W.Frag) (C : Str → Addr) (E : XK) : TS :=
  (tSeq (tDrop (tGo (sp_need_base K C) (fun _ => E) (tCons (tVar 1) tNil)))
    (tRet (tGo (sp_figures_of K C) (fun _ => E0) (tCons (tVar 0) (tCons (tVar 1) tNil)))))
end Mi

namespace Mi
open PySem PySem.Spec PyProof.Rows L2
local macro_rules
  | `(tactic| walk_at "w") => `(tactic| try simp only [a_seq, a_next, a_asg, a_name, a_var, a_c, a_op, a_un, a_rI, a_rI0, a_rU, a_ret, a_retN, a_ifS, a_drop, a_aug, a_ipI, a_test, a_B, a_and, a_or, a_not, a_andV, a_orV, a_notV, a_ifE, a_nil, a_cons, a_lst, a_tup, a_cb, a_go, a_bm, a_bm0, a_sl, a_po, a_pn,
      a_gsub, a_gnil, a_gcons, a_gtup, a_chain, a_eq, a_ne, a_yes, a_revL, a_slL, a_ixL, a_ixT, a_append, a_setL, a_cat, a_for, a_lc, a_iL, a_iT, a_iR1, a_iR2, a_iE, a_iZ, a_iS, b_lenL, b_int1b, b_int1i, b_listOf, b_max2, b_min2, b_sum, b_rep, b_eqLI0, b_eqLI1, b_isN, b_notN, b_listEnum, b_raise0,
      List.getElem?_cons_zero, List.getElem?_cons_succ, List.set_cons_zero, List.set_cons_succ, Option.some.injEq, V.int.injEq, V.ref.injEq, V.bl.injEq, V.str.injEq, List.cons.injEq, and_true, true_and, exists_eq_left', exists_eq_left, exists_eq_right, exists_eq_right', exists_and_left, exists_eq', exists_eq, decide_eq_true_eq, scal_ii, scal_bb, scal_ss, wipe, ↓reduceIte, reduceCtorEq,
      Bool.not_eq_true', decide_eq_false_iff_not, List.length_cons, List.length_nil, Nat.zero_add, CDiv, CMul, CPow])
local macro_rules
  | `(tactic| walk_at "z") => `(tactic| first | omega | (rw [sizeLine_eq]; simp only [List.length_append, List.length_map, List.length_cons, List.length_nil, List.length_reverse, nints]; omega) | decide | (simp only [List.length_append, List.length_map, List.length_cons, List.length_nil]; omega))
section
variable {K : PySem.W.Frag} {C : Str → Addr} {H : Hp} {Q : VK} {E : XK} {vs : List V}
abbrev fin (Q : VK) : Ends := { nx := fun _ H' => Q .non H', rt := Q }
theorem rd_is_whole (h : sp_is_whole K C vs H Q E) : t_is_whole K C E (fin Q) (start ["thing"] vs) H := by
  obtain ⟨x, rfl, hk, q⟩ := h
  show t_is_whole K C E (fin Q) [some x] H
  unfold t_is_whole
  walk_at "w"
  refine isi_int hk ⟨_, rfl, ?_⟩
  cases x with
  | bl b =>
    refine iteT ?_
    refine isi_bool (x := .bl b) trivial ?_
    exact ⟨_, rfl, q⟩
  | int i =>
    refine iteT ?_
    refine isi_bool (x := .int i) trivial ?_
    exact ⟨_, rfl, q⟩
  | _ => first | exact hk.elim | exact q
theorem rd_need_base (h : sp_need_base K C vs H Q E) : t_need_base K C E (fin Q) (start ["base"] vs) H := by
  obtain ⟨x, rfl, hk, q, r⟩ := h
  show t_need_base K C E (fin Q) [some x] H
  unfold t_need_base
  walk_at "w"
  refine ⟨x, rfl, hk, _, rfl, ?_⟩
  cases x with
  | int i =>
    simp only [isInt, Bool.not_true, Bool.false_eq_true, if_false]
    walk_at "w"
    by_cases h1 : 2 ≤ i
    · rw [if_pos h1]
      by_cases h2 : i ≤ 36
      · have e : isBase (.int i) = true := by simp [isBase, h1, h2]
        simp only [h2, decide_true, Bool.not_true, Bool.false_eq_true, if_false]
        exact q e
      · have e : isBase (.int i) = false := by simp [isBase, h2]
        simp only [h2, decide_false, Bool.not_false, if_true]
        exact r e
    · rw [if_neg h1]
      have e : isBase (.int i) = false := by simp [isBase, h1]
      exact r e
  | _ => exact r rfl
theorem rd_figures_of (h : sp_figures_of K C vs H Q E) : t_figures_of K C E (fin Q) (start ["number", "base", "found"] vs) H := by
  obtain ⟨n, b, rfl, hb, hb2, hn, q⟩ := h
  show t_figures_of K C E (fin Q) [some (.int n), some (.int b), none] H
  unfold t_figures_of
  walk_at "w"
  refine ⟨by omega, by decide, fun p hp => ?_⟩
  have L0 := (Led.refl H).new (o := .lst [.int ((n : Int) % b)]) hp
  refine whl (fun m σ H1 => ∃ (x : Nat) (l : List Nat), m = x ∧ x ≤ n ∧ digs b n = l ++ digs b x ∧ σ = [some (.int x), some (.int b), some (.ref p)] ∧ Led H [(p, .lst (nints (l ++ [x % b])))] H1) n ⟨n, [], rfl, Nat.le_refl _, rfl, rfl, ?_⟩ ?_
  · have e : nints ([] ++ [n % b]) = [V.int ((n : Int) % b)] := by simp [nints]
    rw [e]
    exact L0
  · rintro N hN m σ H1 ⟨x, l, em, hx, e, rfl, L⟩
    have em := em.symm
    subst em
    have hlen : l.length ≤ 700 := by
      have := digs_len_lim hb hn
      rw [e, List.length_append] at this
      omega
    walk_at "w"
    by_cases hc : (b : Int) ≤ x
    · rw [if_pos hc]
      refine whb ?_
      walk_at "w"
      have hc' : b ≤ x := by omega
      refine ⟨⟨by omega, by omega⟩, .inl ⟨rfl, _, L.sqI 0 rfl⟩, by omega, _, L.get 0 rfl, by walk_at "z", x / b, Nat.div_lt_self (by omega) (by omega), hN _ _ _ ⟨x / b, l ++ [x % b], rfl, ?_, ?_, ?_, ?_⟩⟩
      · exact Nat.le_trans (Nat.div_le_self _ _) hx
      · rw [e, digs_ge hb hc', List.append_assoc]
        rfl
      · simp
      · have L2 := L.put (o' := .lst (nints (l ++ [x % b]) ++ [V.int ((x : Int) / b % b)])) 0 rfl
        have e2 : nints (l ++ [x % b] ++ [x / b % b]) = nints (l ++ [x % b]) ++ [V.int ((x : Int) / b % b)] := by simp [nints]
        rw [e2]
        exact L2
    · rw [if_neg hc]
      refine ⟨_, L.sqI 0 rfl, fun p2 hp2 => ?_⟩
      have ex : x % b = x := Nat.mod_eq_of_lt (by omega)
      have e3 : (nints (l ++ [x % b])).reverse = nints (figs b n) := by
        unfold figs
        rw [e, digs_lt (show x < b by omega), ex]
        simp [nints]
      rw [e3]
      exact q _ _ ((L.new hp2).one 0 rfl)
end
end Mi

namespace Mi
open PySem PySem.Spec PyProof.Rows L2
local macro_rules
  | `(tactic| walk_at "w") => `(tactic| try simp only [a_seq, a_next, a_asg, a_name, a_var, a_c, a_op, a_un, a_rI, a_rI0, a_rU, a_ret, a_retN, a_ifS, a_drop, a_aug, a_ipI, a_test, a_B, a_and, a_or, a_not, a_andV, a_orV, a_notV, a_ifE, a_nil, a_cons, a_lst, a_tup, a_cb, a_go, a_bm, a_bm0, a_sl, a_po, a_pn,
      a_gsub, a_gnil, a_gcons, a_gtup, a_chain, a_eq, a_ne, a_yes, a_revL, a_slL, a_ixL, a_ixT, a_append, a_setL, a_cat, a_for, a_lc, a_iL, a_iT, a_iR1, a_iR2, a_iE, a_iZ, a_iS, b_lenL, b_int1b, b_int1i, b_listOf, b_max2, b_min2, b_sum, b_rep, b_eqLI0, b_eqLI1, b_isN, b_notN, b_listEnum, b_raise0,
      List.getElem?_cons_zero, List.getElem?_cons_succ, List.set_cons_zero, List.set_cons_succ, Option.some.injEq, V.int.injEq, V.ref.injEq, V.bl.injEq, V.str.injEq, List.cons.injEq, and_true, true_and, exists_eq_left', exists_eq_left, exists_eq_right, exists_eq_right', exists_and_left, exists_eq', exists_eq, decide_eq_true_eq, scal_ii, scal_bb, scal_ss, wipe, ↓reduceIte, reduceCtorEq,
      Bool.not_eq_true', decide_eq_false_iff_not, List.length_cons, List.length_nil, Nat.zero_add, CDiv, CMul, CPow])
local macro_rules
  | `(tactic| walk_at "z") => `(tactic| first | omega | (rw [sizeLine_eq]; simp only [List.length_append, List.length_map, List.length_cons, List.length_nil, List.length_reverse, nints]; omega) | decide | (simp only [List.length_append, List.length_map, List.length_cons, List.length_nil]; omega))
section
variable {K : PySem.W.Frag} {C : Str → Addr} {H : Hp} {Q : VK} {E : XK} {vs : List V}
theorem nints_get {l : List Nat} {i : Nat} {x : V} (h : (nints l)[i]? = some x) : ∃ d, l[i]? = some d ∧ x = .int (d : Nat) := by
  unfold nints at h
  rw [List.map_map, List.getElem?_map] at h
  cases e : l[i]? with
  | none =>
    rw [e] at h
    cases h
  | some d =>
    rw [e] at h
    cases h
    exact ⟨d, rfl, rfl⟩
theorem nints_len (l : List Nat) : (nints l).length = l.length := by simp [nints]
theorem take_get {α : Type} {l : List α} {i : Nat} {d : α} (h : l[i]? = some d) : l.take (i + 1) = l.take i ++ [d] := by
  rw [List.take_add_one, h]
  rfl
theorem rd_put_together (h : sp_put_together K C vs H Q E) : t_put_together K C E (fin Q) (start ["some", "base", "number", "figure"] vs) H := by
  obtain ⟨a, l, b, rfl, hS, hb, q⟩ := h
  show t_put_together K C E (fin Q) [some (.ref a), some (.int b), none, none] H
  unfold t_put_together
  walk_at "w"
  refine ⟨⟨_, hS⟩, for_l (xs := nints l) (fun i σ H1 => H1 = H ∧ ∃ y, σ = [some (.ref a), some (.int b), some (.int ((val b (l.take i) : Nat))), y]) ⟨rfl, none, rfl⟩ (fun i σ H1 _ p => p.1 ▸ hS) ?_ ?_⟩
  · rintro N hN i x σ H1 hx ⟨rfl, y, rfl⟩
    obtain ⟨d, hd, rfl⟩ := nints_get hx
    walk_at "w"
    refine ⟨by omega, hN _ _ _ ⟨rfl, some (.int d), ?_⟩⟩
    rw [take_get hd, val_append, val_one]
    simp
  · rintro σ H1 ⟨rfl, y, rfl⟩
    rw [nints_len, List.take_length]
    walk_at "w"
    exact q
theorem rd_figures (h : sp_figures K C vs H Q E) : t_figures K C E (fin Q) (start ["number", "base"] vs) H := by
  obtain ⟨n, x, rfl, hk, hn, r, q⟩ := h
  show t_figures K C E (fin Q) [some (.int n), some x] H
  unfold t_figures
  walk_at "w"
  refine ⟨x, rfl, hk, fun hb => ?_, fun hb => ?_⟩
  · cases x with
    | int i =>
      simp only [isBase, Bool.and_eq_true, decide_eq_true_eq] at hb
      obtain ⟨b, rfl⟩ := Int.eq_ofNat_of_zero_le (show 0 ≤ i by omega)
      exact ⟨n, b, rfl, by omega, by omega, hn, q b rfl (by omega) (by omega)⟩
    | _ => cases hb
  · exact r hb
theorem hand_mix (c : Int) (k : Nat) : ∃ m : Nat, m < 2147483587 ∧ (c % 2147483587 + 7919 * (k : Int) + 1) * 48271 % 2147483587 = (m : Int) := by
  have h0 : 0 ≤ (c % 2147483587 + 7919 * (k : Int) + 1) * 48271 % 2147483587 := Int.emod_nonneg _ (by decide)
  have h1 : (c % 2147483587 + 7919 * (k : Int) + 1) * 48271 % 2147483587 < 2147483587 := Int.emod_lt_of_pos _ (by decide)
  generalize (c % 2147483587 + 7919 * (k : Int) + 1) * 48271 % 2147483587 = z at h0 h1
  obtain ⟨m, rfl⟩ := Int.eq_ofNat_of_zero_le h0
  exact ⟨m, by omega, rfl⟩
theorem rd__law_hand (h : sp__law_hand K C vs H Q E) : t__law_hand K C E (fin Q) (start ["cell", "k", "digits"] vs) H := by
  obtain ⟨c, k, rfl, hk, q⟩ := h
  show t__law_hand K C E (fin Q) [some (.int c), some (.int k), none] H
  unfold t__law_hand
  walk_at "w"
  refine ⟨by decide, ?_⟩
  obtain ⟨m, hm, e⟩ := hand_mix c k
  rw [e]
  by_cases hc : (10 : Int) ^ (18 : Int).toNat ≤ c
  · rw [if_pos hc]
    have h18 : (0 : Int) ≤ (10 : Int) ^ (18 : Int).toNat := by decide
    obtain ⟨d, rfl⟩ := Int.eq_ofNat_of_zero_le (Int.le_trans h18 hc)
    exact ⟨by omega, by omega, by omega, by omega, by decide, fun p hp => q _ _ d m hm ((Led.refl H).new hp)⟩
  · rw [if_neg hc]
    exact ⟨by omega, by omega, by omega, by omega, by decide, fun p hp => q _ _ 0 m hm ((Led.refl H).new hp)⟩
theorem rd__law_draw (h : sp__law_draw K C vs H Q E) : t__law_draw K C E (fin Q) (start ["hand", "limit", "got"] vs) H := by
  obtain ⟨a, d, m, l, rfl, ha, hm, hl, hl2, q⟩ := h
  show t__law_draw K C E (fin Q) [some (.ref a), some (.int l), none] H
  unfold t__law_draw
  have L := Led.own1 ha
  have g0 : atI [V.int d, V.int m] 0 = some (.int d) := rfl
  have g1 : atI [V.int d, V.int m] 1 = some (.int m) := rfl
  walk_at "w"
  refine ⟨_, L.sqI 0 rfl, _, g0, _, rfl, ?_⟩
  by_cases hd : (0 : Int) < d
  · rw [if_pos hd]
    refine ⟨_, L.sqI 0 rfl, _, g0, _, rfl, by omega, _, L.sqI 0 rfl, _, g0, _, rfl, ⟨by omega, by omega⟩, _, L.get 0 rfl, 0, rfl, ?_⟩
    exact q _ (d / l) m (d % l) hm (Nat.mod_lt _ hl) (L.put 0 rfl)
  · rw [if_neg hd]
    have e : ∃ z : Nat, z < 2147483587 ∧ ((m : Int) * m + 69621 * m + 12345) % 2147483587 = z :=
      ⟨(m * m + 69621 * m + 12345) % 2147483587, Nat.mod_lt _ (by decide), by simp⟩
    obtain ⟨z, hz, e⟩ := e
    refine ⟨_, L.sqI 0 rfl, _, g1, _, L.sqI 0 rfl, _, g1, _, rfl, _, rfl, by omega, _, L.sqI 0 rfl, _, g1, _, rfl, by omega, by decide, _, L.get 0 rfl, 1, rfl, ?_⟩
    rw [e]
    have L2 := L.put (o' := .lst [.int d, .int z]) 0 rfl
    refine ⟨_, L2.sqI 0 rfl, _, rfl, _, rfl, by decide, by omega, ?_⟩
    exact q _ d z (z / 8 % l) hz (Nat.mod_lt _ hl) L2
end
end Mi

namespace Mi
open PySem PySem.Spec PyProof.Rows L2
local macro_rules
  | `(tactic| walk_at "w") => `(tactic| try simp only [a_seq, a_next, a_asg, a_name, a_var, a_c, a_op, a_un, a_rI, a_rI0, a_rU, a_ret, a_retN, a_ifS, a_drop, a_aug, a_ipI, a_test, a_B, a_and, a_or, a_not, a_andV, a_orV, a_notV, a_ifE, a_nil, a_cons, a_lst, a_tup, a_cb, a_go, a_bm, a_bm0, a_sl, a_po, a_pn,
      a_gsub, a_gnil, a_gcons, a_gtup, a_chain, a_eq, a_ne, a_yes, a_revL, a_slL, a_ixL, a_ixT, a_append, a_setL, a_cat, a_for, a_lc, a_iL, a_iT, a_iR1, a_iR2, a_iE, a_iZ, a_iS, b_lenL, b_int1b, b_int1i, b_listOf, b_max2, b_min2, b_sum, b_rep, b_eqLI0, b_eqLI1, b_isN, b_notN, b_listEnum, b_raise0,
      List.getElem?_cons_zero, List.getElem?_cons_succ, List.set_cons_zero, List.set_cons_succ, Option.some.injEq, V.int.injEq, V.ref.injEq, V.bl.injEq, V.str.injEq, List.cons.injEq, and_true, true_and, exists_eq_left', exists_eq_left, exists_eq_right, exists_eq_right', exists_and_left, exists_eq', exists_eq, decide_eq_true_eq, scal_ii, scal_bb, scal_ss, wipe, ↓reduceIte, reduceCtorEq,
      Bool.not_eq_true', decide_eq_false_iff_not, List.length_cons, List.length_nil, Nat.zero_add, CDiv, CMul, CPow])
local macro_rules
  | `(tactic| walk_at "z") => `(tactic| first | omega | (rw [sizeLine_eq]; simp only [List.length_append, List.length_map, List.length_cons, List.length_nil, List.length_reverse, nints]; omega) | decide | (simp only [List.length_append, List.length_map, List.length_cons, List.length_nil]; omega))
section
variable {K : PySem.W.Frag} {C : Str → Addr} {H : Hp} {Q : VK} {E : XK} {vs : List V}
theorem rd__law_power (h : sp__law_power K C vs H Q E) : t__law_power K C E (fin Q) (start ["base", "many", "found", "turn"] vs) H := by
  obtain ⟨b, m, rfl, hb, hm, q⟩ := h
  show t__law_power K C E (fin Q) [some (.int b), some (.int m), none, none] H
  unfold t__law_power
  walk_at "w"
  refine ⟨by omega, by omega, for_r (fun i σ H1 => H1 = H ∧ ∃ y, σ = [some (.int b), some (.int m), some (.int ((b ^ i : Nat))), y]) ⟨rfl, none, rfl⟩ ?_ ?_⟩
  · rintro N hN i σ H1 hi ⟨rfl, y, rfl⟩
    walk_at "w"
    refine ⟨by omega, hN _ _ _ ⟨rfl, some (.int (0 + (i : Int))), ?_⟩⟩
    rw [Nat.pow_succ]
    simp
  · rintro σ H1 ⟨rfl, y, rfl⟩
    walk_at "w"
    exact q
theorem rd__law_figures (h : sp__law_figures K C vs H Q E) : t__law_figures K C E (fin Q) (start ["number", "base", "found", "rest"] vs) H := by
  obtain ⟨n, b, rfl, hb, hb2, hn, q⟩ := h
  show t__law_figures K C E (fin Q) [some (.int n), some (.int b), none, none] H
  unfold t__law_figures
  walk_at "w"
  refine ⟨by omega, by decide, fun p hp => ?_⟩
  walk_at "w"
  refine ⟨⟨by omega, by omega⟩, ?_⟩
  have L0 := (Led.refl H).new (o := .lst [.int ((n : Int) % b)]) hp
  refine whl (fun m σ H1 => ∃ (x : Nat) (l : List Nat), m = x ∧ x ≤ n ∧ (if x = 0 then digs b n = l else digs b n = l ++ digs b x) ∧ σ = [some (.int n), some (.int b), some (.ref p), some (.int x)] ∧ Led H [(p, .lst (nints l))] H1) (n / b) ⟨n / b, [n % b], rfl, Nat.div_le_self _ _, ?_, rfl, ?_⟩ ?_
  · by_cases h : b ≤ n
    · have q0 : 0 < n / b := Nat.div_pos h (by omega)
      rw [if_neg (by omega)]
      exact digs_ge hb h
    · have q0 : n / b = 0 := Nat.div_eq_of_lt (by omega)
      rw [if_pos q0, digs_lt (by omega), Nat.mod_eq_of_lt (by omega)]
  · have e : nints [n % b] = [V.int ((n : Int) % b)] := by simp [nints]
    rw [e]
    exact L0
  · rintro N hN m σ H1 ⟨x, l, em, hx, e, rfl, L⟩
    have em := em.symm
    subst em
    walk_at "w"
    by_cases hc : (0 : Int) < x
    · rw [if_pos hc]
      have hx0 : x ≠ 0 := by omega
      rw [if_neg hx0] at e
      have hlen : l.length ≤ 700 := by
        have := digs_len_lim hb hn
        rw [e, List.length_append] at this
        omega
      refine whb ?_
      walk_at "w"
      refine ⟨.inl ⟨rfl, _, L.sqI 0 rfl⟩, by omega, _, L.get 0 rfl, by walk_at "z", ⟨by omega, by omega⟩, x / b, Nat.div_lt_self (by omega) (by omega), hN _ _ _ ⟨x / b, l ++ [x % b], rfl, ?_, ?_, ?_, ?_⟩⟩
      · exact Nat.le_trans (Nat.div_le_self _ _) hx
      · by_cases h : b ≤ x
        · have q0 : 0 < x / b := Nat.div_pos h (by omega)
          rw [if_neg (by omega), e, digs_ge hb h, List.append_assoc]
          rfl
        · have q0 : x / b = 0 := Nat.div_eq_of_lt (by omega)
          rw [if_pos q0, e, digs_lt (by omega), Nat.mod_eq_of_lt (by omega)]
      · simp
      · have L2 := L.put (o' := .lst (nints l ++ [V.int ((x : Int) % b)])) 0 rfl
        have e2 : nints (l ++ [x % b]) = nints l ++ [V.int ((x : Int) % b)] := by simp [nints]
        rw [e2]
        exact L2
    · rw [if_neg hc]
      have hx0 : x = 0 := by omega
      rw [if_pos hx0] at e
      refine ⟨_, L.sqI 0 rfl, fun p2 hp2 => ?_⟩
      have e3 : (nints l).reverse = nints (figs b n) := by
        unfold figs
        rw [e]
        simp [nints]
      rw [e3]
      exact q _ _ ((L.new hp2).one 0 rfl)
theorem nints_map (l : List Nat) : nints l = (l.map fun (d : Nat) => (d : Int)).map V.int := rfl
/-- each figure times its place -/
def places (b : Nat) (l : List Nat) (i : Nat) : List Nat := (List.range i).map fun j => l.getD j 0 * b ^ (l.length - 1 - j)
theorem places_sum (b : Nat) : ∀ l : List Nat, (places b l l.length).sum = val b l
  | [] => rfl
  | d :: l => by
    rw [val_cons, ← places_sum b l]
    unfold places
    rw [List.length_cons, List.range_succ_eq_map, List.map_cons, List.sum_cons, List.map_map]
    have e : ((fun j => (d :: l).getD j 0 * b ^ (l.length + 1 - 1 - j)) ∘ Nat.succ) = fun j => l.getD j 0 * b ^ (l.length - 1 - j) := by
      funext j
      show (d :: l).getD (j + 1) 0 * b ^ (l.length + 1 - 1 - (j + 1)) = _
      rw [show l.length + 1 - 1 - (j + 1) = l.length - 1 - j by omega]
      simp
    rw [e]
    simp
theorem sum_cast (l : List Nat) : (l.map fun (d : Nat) => (d : Int)).sum = ((l.sum : Nat) : Int) := by
  induction l with
  | nil => rfl
  | cons d l ih => simp [ih]
theorem getD_of {α : Type} {l : List α} {i : Nat} {d x : α} (h : l[i]? = some x) : l.getD i d = x := by
  rw [List.getD_eq_getElem?_getD, h]
  rfl
theorem lt_of_get {α : Type} {l : List α} {i : Nat} {x : α} (h : l[i]? = some x) : i < l.length := by
  rcases Nat.lt_or_ge i l.length with q | q
  · exact q
  · rw [List.getElem?_eq_none q] at h
    cases h
theorem rd__law_value (h : sp__law_value K C vs H Q E) : t__law_value K C E (fin Q) (start ["some", "base", "k", "figure"] vs) H := by
  obtain ⟨a, l, b, rfl, hS, hb, hd, hl, q⟩ := h
  show t__law_value K C E (fin Q) [some (.ref a), some (.int b), none, none] H
  unfold t__law_value
  walk_at "w"
  refine ⟨_, hS, fun P hP => lc_e (xs := nints l) (Led.refl H) hP (fun H1 L => L.sq hS) (fun i => nints (places b l i)) rfl ?_ fun H1 L => ?_⟩
  · intro i x H1 hx L
    obtain ⟨d, hi, rfl⟩ := nints_get hx
    walk_at "w"
    have hil := lt_of_get hi
    have e1 : ((nints l).length : Int) - 1 - i = ((l.length - 1 - i : Nat) : Int) := by rw [nints_len]; omega
    refine ⟨_, .inl (L.sq hS), b, l.length - 1 - i, ?_, hb, by omega, ?_⟩
    · rw [e1]
    · have : d ≤ 36 := hd d (List.mem_of_getElem? hi)
      refine ⟨_, rfl, by omega, lc_y L ?_ ?_⟩
      · unfold places
        rw [List.range_succ, List.map_append]
        simp [nints, hi]
      · rw [nints_len]
        unfold places
        rw [List.length_map, List.length_range, sizeLine_eq]
        omega
  · rw [nints_len] at L
    walk_at "w"
    refine ⟨_, L.sqI 0 rfl, ?_⟩
    rw [sum_cast, places_sum]
    exact q _ L.none
theorem cut_none (xs : List V) (m : Nat) : cutV xs none (some (m : Int)) = xs.take m := by
  unfold cutV
  rw [HT.sIx_none, HT.sIx_nat, List.drop_zero, Nat.sub_zero]
  rcases Nat.le_total m xs.length with h | h
  · rw [Nat.min_eq_left h]
  · rw [Nat.min_eq_right h, List.take_of_length_le (Nat.le_refl _), List.take_of_length_le h]
theorem rd__law_cells (h : sp__law_cells K C vs H Q E) : t__law_cells K C E (fin Q) (start ["script", "many"] vs) H := by
  obtain ⟨a, ns, m, rfl, hS, hn, hm, q⟩ := h
  show t__law_cells K C E (fin Q) [some (.ref a), some (.int m)] H
  unfold t__law_cells
  walk_at "w"
  refine ⟨_, hS, fun p hp => ?_⟩
  have L1 := (Led.refl H).new (o := .lst (cutV (ns.map V.int) none (some m))) hp
  generalize upd _ _ _ = H1 at L1 ⊢
  refine ⟨by decide, fun p2 hp2 => ?_⟩
  have L2 := L1.new (o := .lst [.int 0]) hp2
  generalize upd _ _ _ = H2 at L2 ⊢
  refine ⟨by decide, fun p3 hp3 => ?_⟩
  have L3 := L2.new (o := .lst []) hp3
  generalize upd _ _ _ = H3 at L3 ⊢
  refine ⟨ns, L3.sq hS, [], L3.sqI 0 rfl, ?_⟩
  have hc : ∃ k : Nat, (if ns = [] then (1 : Int) else 0) = k ∧ k ≤ 1 := by
    split
    · exact ⟨1, rfl, Nat.le_refl _⟩
    · exact ⟨0, rfl, by omega⟩
  obtain ⟨k, ek, hk⟩ := hc
  rw [ek]
  refine ⟨_, L3.get 1 rfl, by omega, by omega, ?_, fun p4 hp4 => ?_⟩
  · rw [sizeLine_eq]
    simp
    omega
  have L4 := L3.new (o := .lst (List.replicate (k : Int).toNat [V.int 0]).flatten) hp4
  generalize upd _ _ _ = H4 at L4 ⊢
  refine ⟨_, L4.get 3 rfl, _, L4.get 0 rfl, ?_, fun p5 hp5 => ?_⟩
  · rw [cut_none, sizeLine_eq]
    simp
    omega
  have L5 := L4.new (o := .lst (cutV (ns.map V.int) none (some m) ++ (List.replicate (k : Int).toNat [V.int 0]).flatten)) hp5
  generalize upd _ _ _ = H5 at L5 ⊢
  refine ⟨_, L5.sqI 0 rfl, fun P as H6 hl L6 => ?_⟩
  have e : cutV (ns.map V.int) none (some m) ++ (List.replicate (k : Int).toNat [V.int 0]).flatten = (ns.take m ++ List.replicate k 0).map V.int := by
    rw [cut_none, List.map_append, List.map_take, List.map_replicate, Int.toNat_natCast]
    congr 1
    have : ∀ k : Nat, (List.replicate k [V.int 0]).flatten = List.replicate k (V.int 0) := by
      intro k
      induction k with
      | zero => rfl
      | succ k ih => rw [List.replicate_succ, List.flatten_cons, ih]; rfl
    exact this k
  rw [e] at L6 hl
  refine q P as (ns.take m ++ List.replicate k 0) H6 (by rw [hl, List.length_map]) ?_ ?_
  · rw [List.length_append, List.length_take, List.length_replicate]
    omega
  · have z := L5.step L6
    exact z.sub (List.sublist_append_left _ _)
theorem rd__law_base (h : sp__law_base K C vs H Q E) : t__law_base K C E (fin Q) (start ["hand", "ends"] vs) H := by
  obtain ⟨a, d, m, rfl, ha, hm, q⟩ := h
  show t__law_base K C E (fin Q) [some (.ref a), none] H
  unfold t__law_base
  have L0 := Led.own1 ha
  walk_at "w"
  refine ⟨by decide, fun p hp => ?_⟩
  have L1 := L0.new (o := .lst [V.int 2, V.int 36, V.int 3, V.int 16]) hp
  generalize upd _ _ _ = H1 at L1 ⊢
  refine ⟨a, d, m, 4, rfl, L1.get 1 rfl, hm, by omega, by omega, fun H2 d2 m2 g2 hm2 hg2 M2 => ?_⟩
  have L2 := L1.stepOwn (G := []) 1 rfl M2
  have he : ∃ e : Nat, 2 ≤ e ∧ e ≤ 36 ∧ atI [V.int 2, V.int 36, V.int 3, V.int 16] (g2 : Int) = some (.int e) := by
    have hg : g2 = 0 ∨ g2 = 1 ∨ g2 = 2 ∨ g2 = 3 := by omega
    rcases hg with rfl | rfl | rfl | rfl
    · exact ⟨2, by omega, by omega, rfl⟩
    · exact ⟨36, by omega, by omega, rfl⟩
    · exact ⟨3, by omega, by omega, rfl⟩
    · exact ⟨16, by omega, by omega, rfl⟩
  obtain ⟨e, he1, he2, hat⟩ := he
  walk_at "w"
  refine ⟨_, L2.sqI 0 rfl, _, hat, a, d2, m2, 35, rfl, L2.get 1 rfl, hm2, by omega, by omega, fun H3 d3 m3 g3 hm3 hg3 M3 => ?_⟩
  have L3 := L2.stepOwn (G := []) 1 rfl M3
  walk_at "w"
  refine ⟨a, d3, m3, 35, rfl, L3.get 1 rfl, hm3, by omega, by omega, fun H4 d4 m4 g4 hm4 hg4 M4 => ?_⟩
  have L4 := L3.stepOwn (G := []) 1 rfl M4
  walk_at "w"
  refine ⟨by decide, fun p5 hp5 => ?_⟩
  have L5 := L4.new (o := .lst [V.int (2 + (g3 : Int)), V.int 10, V.int (2 + (g4 : Int)), V.int e]) hp5
  generalize upd _ _ _ = H5 at L5 ⊢
  refine ⟨a, d4, m4, 4, rfl, L5.get 2 rfl, hm4, by omega, by omega, fun H6 d6 m6 g6 hm6 hg6 M6 => ?_⟩
  have L6 := L5.stepOwn (G := []) 2 rfl M6
  walk_at "w"
  have hb : ∃ b : Nat, 2 ≤ b ∧ b ≤ 36 ∧ atI [V.int (2 + (g3 : Int)), V.int 10, V.int (2 + (g4 : Int)), V.int e] (g6 : Int) = some (.int b) := by
    have hg : g6 = 0 ∨ g6 = 1 ∨ g6 = 2 ∨ g6 = 3 := by omega
    rcases hg with rfl | rfl | rfl | rfl
    · exact ⟨2 + g3, by omega, by omega, by simp [atI, ixN]⟩
    · exact ⟨10, by omega, by omega, rfl⟩
    · exact ⟨2 + g4, by omega, by omega, by simp [atI, ixN]⟩
    · exact ⟨e, by omega, by omega, by simp [atI, ixN]⟩
  obtain ⟨b, hb1, hb2, hat6⟩ := hb
  refine ⟨_, L6.sqI 0 rfl, _, hat6, ?_⟩
  exact q H6 d6 m6 b hm6 hb1 hb2 (L6.one 2 rfl)
end
end Mi

namespace Mi
open PySem PySem.Spec PyProof.Rows L2
local macro_rules
  | `(tactic| walk_at "w") => `(tactic| try simp only [a_seq, a_next, a_asg, a_name, a_var, a_c, a_op, a_un, a_rI, a_rI0, a_rU, a_ret, a_retN, a_ifS, a_drop, a_aug, a_ipI, a_test, a_B, a_and, a_or, a_not, a_andV, a_orV, a_notV, a_ifE, a_nil, a_cons, a_lst, a_tup, a_cb, a_go, a_bm, a_bm0, a_sl, a_po, a_pn,
      a_gsub, a_gnil, a_gcons, a_gtup, a_chain, a_eq, a_ne, a_yes, a_revL, a_slL, a_ixL, a_ixT, a_append, a_setL, a_cat, a_for, a_lc, a_iL, a_iT, a_iR1, a_iR2, a_iE, a_iZ, a_iS, b_lenL, b_int1b, b_int1i, b_listOf, b_max2, b_min2, b_sum, b_rep, b_eqLI0, b_eqLI1, b_isN, b_notN, b_listEnum, b_raise0,
      List.getElem?_cons_zero, List.getElem?_cons_succ, List.set_cons_zero, List.set_cons_succ, Option.some.injEq, V.int.injEq, V.ref.injEq, V.bl.injEq, V.str.injEq, List.cons.injEq, and_true, true_and, exists_eq_left', exists_eq_left, exists_eq_right, exists_eq_right', exists_and_left, exists_eq', exists_eq, decide_eq_true_eq, scal_ii, scal_bb, scal_ss, wipe, ↓reduceIte, reduceCtorEq,
      Bool.not_eq_true', decide_eq_false_iff_not, List.length_cons, List.length_nil, Nat.zero_add, CDiv, CMul, CPow])
local macro_rules
  | `(tactic| walk_at "z") => `(tactic| first | omega | (rw [sizeLine_eq]; simp only [List.length_append, List.length_map, List.length_cons, List.length_nil, List.length_reverse, nints]; omega) | decide | (simp only [List.length_append, List.length_map, List.length_cons, List.length_nil]; omega))
section
variable {K : PySem.W.Frag} {C : Str → Addr} {H : Hp} {Q : VK} {E : XK} {vs : List V}
theorem at0 {x : V} {xs : List V} : atI (x :: xs) 0 = some x := atI_nat (j := 0) rfl
theorem rd_number_of (h : sp_number_of K C vs H Q E) : t_number_of K C E (fin Q) (start ["thing", "base", "one"] vs) H := by
  obtain ⟨a, l, b, rfl, ha, hb, hb2, hne, hd, hh, hlen, q⟩ := h
  show t_number_of K C E (fin Q) [some (.ref a), some (.int b), none] H
  unfold t_number_of
  walk_at "w"
  refine ⟨.int b, rfl, trivial, fun _ => ?_, fun h => ?_⟩
  · refine isi_list ha ⟨_, rfl, ?_⟩
    rw [if_neg (by decide)]
    refine ⟨by decide, fun p1 hp1 => ?_⟩
    have L1 := (Led.refl H).new (o := .lst []) hp1
    generalize upd _ _ _ = H1 at L1 ⊢
    have hS : SqL K H a (nints l) := SqL.of ha
    refine ⟨l.map fun (d : Nat) => (d : Int), L1.sq hS, [], L1.sqI 0 rfl, ?_⟩
    rw [if_neg (by simpa using hne)]
    refine ⟨⟨_, L1.sq hS⟩, fun P hP => lc_l L1 hP (fun H2 L2 => L2.sq hS) (fun _ => []) rfl ?_ fun H2 L2 => ?_⟩
    · intro i x H3 hx L3
      obtain ⟨d, hi, rfl⟩ := nints_get hx
      walk_at "w"
      refine ⟨.int d, rfl, trivial, _, rfl, ?_⟩
      exact L3
    refine ⟨by decide, fun p3 hp3 => ?_⟩
    have L3 := L2.new (o := .lst []) hp3
    generalize upd _ _ _ = H3 at L3 ⊢
    refine ⟨[], L3.sqI 1 rfl, [], L3.sqI 0 rfl, ?_⟩
    rw [if_neg (by simp)]
    refine ⟨⟨_, L3.sq hS⟩, fun P hP => lc_l L3 hP (fun H2 L2 => L2.sq hS) (fun _ => []) rfl ?_ fun H4 L4 => ?_⟩
    · intro i x H5 hx L5
      obtain ⟨d, hi, rfl⟩ := nints_get hx
      have hdb := hd d (List.mem_of_getElem? hi)
      walk_at "w"
      rw [if_pos (by omega)]
      walk_at "w"
      rw [if_neg (by omega)]
      exact L5
    refine ⟨by decide, fun p5 hp5 => ?_⟩
    have L5 := L4.new (o := .lst []) hp5
    generalize upd _ _ _ = H5 at L5 ⊢
    refine ⟨[], L5.sqI 1 rfl, [], L5.sqI 0 rfl, ?_⟩
    rw [if_neg (by simp)]
    have L6 : Led H [] H5 := L5.none
    obtain ⟨d, l', rfl⟩ : ∃ d l', l = d :: l' := by
      cases l with
      | nil => exact absurd rfl hne
      | cons d l' => exact ⟨d, l', rfl⟩
    refine ⟨_, L6.sq hS, .int d, at0, rfl, ?_⟩
    have fin : sp_put_together K C [V.ref a, V.int b] H5 Q E0 := ⟨a, d :: l', b, rfl, L6.sq hS, hb2, q H5 L6⟩
    by_cases hz : (V.int (d : Nat)) = V.int 0
    · rw [if_pos hz]
      refine ⟨_, .inl (L6.sq hS), ?_⟩
      have : (d :: l').length = 1 := by
        rcases hh with h | h
        · exact h
        · have := h d rfl
          have z : (d : Int) = 0 := V.int.inj hz
          omega
      rw [nints_len, this, if_neg (by decide)]
      exact fin
    · rw [if_neg hz]
      exact fin
  · have : isBase (.int b) = true := by simp [isBase]; omega
    rw [this] at h
    cases h
end
end Mi

/-! the draws, used -/
namespace Mi
open PySem PySem.Spec PyProof.Rows L2
local macro_rules
  | `(tactic| walk_at "w") => `(tactic| try simp only [a_seq, a_next, a_asg, a_name, a_var, a_c, a_op, a_un, a_rI, a_rI0, a_rU, a_ret, a_retN, a_ifS, a_drop, a_aug, a_ipI, a_test, a_B, a_and, a_or, a_not, a_andV, a_orV, a_notV, a_ifE, a_nil, a_cons, a_lst, a_tup, a_cb, a_go, a_bm, a_bm0, a_sl, a_po, a_pn,
      a_gsub, a_gnil, a_gcons, a_gtup, a_chain, a_eq, a_ne, a_yes, a_revL, a_slL, a_ixL, a_ixT, a_append, a_setL, a_cat, a_for, a_lc, a_iL, a_iT, a_iR1, a_iR2, a_iE, a_iZ, a_iS, b_lenL, b_int1b, b_int1i, b_listOf, b_max2, b_min2, b_sum, b_rep, b_eqLI0, b_eqLI1, b_isN, b_notN, b_listEnum, b_raise0,
      List.getElem?_cons_zero, List.getElem?_cons_succ, List.set_cons_zero, List.set_cons_succ, Option.some.injEq, V.int.injEq, V.ref.injEq, V.bl.injEq, V.str.injEq, List.cons.injEq, and_true, true_and, exists_eq_left', exists_eq_left, exists_eq_right, exists_eq_right', exists_and_left, exists_eq', exists_eq, decide_eq_true_eq, scal_ii, scal_bb, scal_ss, wipe, ↓reduceIte, reduceCtorEq,
      Bool.not_eq_true', decide_eq_false_iff_not, List.length_cons, List.length_nil, Nat.zero_add, CDiv, CMul, CPow])
local macro_rules
  | `(tactic| walk_at "z") => `(tactic| first | omega | (rw [sizeLine_eq]; simp only [List.length_append, List.length_map, List.length_cons, List.length_nil, List.length_reverse, nints]; omega) | decide | (simp only [List.length_append, List.length_map, List.length_cons, List.length_nil]; omega))
section
variable {K : PySem.W.Frag} {C : Str → Addr} {H B : Hp} {Q : VK} {E : XK} {F : List (Addr × HO)} {a : Addr} {d m l : Nat} {D : Ends} {σ : L2.St} {tb : TS}
theorem use_draw (L : Led B F H) (i : Nat) (hF : F[i]? = some (a, .lst [.int d, .int m])) (hm : m < 2147483587) (hl : 0 < l) (hl2 : l < 1073741824)
    (q : ∀ H' (d' m' g : Nat), m' < 2147483587 → g < l → Led B (F.set i (a, .lst [.int d', .int m'])) H' → Q (.int g) H') : sp__law_draw K C [.ref a, .int l] H Q E :=
  ⟨a, d, m, l, rfl, L.get i hF, hm, hl, hl2, fun H' d' m' g hm' hg M => q H' d' m' g hm' hg (L.stepOwn (G := []) i hF M)⟩
theorem use_base (L : Led B F H) (i : Nat) (hF : F[i]? = some (a, .lst [.int d, .int m])) (hm : m < 2147483587)
    (q : ∀ H' (d' m' b : Nat), m' < 2147483587 → 2 ≤ b → b ≤ 36 → Led B (F.set i (a, .lst [.int d', .int m'])) H' → Q (.int b) H') : sp__law_base K C [.ref a] H Q E :=
  ⟨a, d, m, rfl, L.get i hF, hm, fun H' d' m' b hm' hb hb2 M => q H' d' m' b hm' hb hb2 (L.stepOwn (G := []) i hF M)⟩
theorem use_hand {c : Int} {k : Nat} (L : Led B F H) (hk : k ≤ 1000) (q : ∀ p H' (d m : Nat), m < 2147483587 → Led B ((p, .lst [.int d, .int m]) :: F) H' → Q (.ref p) H') : sp__law_hand K C [.int c, .int k] H Q E :=
  ⟨c, k, rfl, hk, fun p H' d m hm M => q p H' d m hm (L.step M)⟩
theorem enF_get {as : List Addr} {xs : List V} {i : Nat} {b : Addr} {y : V} (hl : as.length = xs.length) (hb : as[i]? = some b) (hy : xs[i]? = some y) : (b, HO.tup [.int (i : Nat), y]) ∈ enF as xs :=
  List.mem_map.mpr ⟨i, List.mem_range.mpr (by have := lt_of_get hy; exact this), by rw [getD_of hb, getD_of hy]⟩
/-- for k, cell in the cells -/
theorem for_cells {P : Addr} {as : List Addr} {cs : List Int} {H1 : Hp} {j k : Nat} (hl : as.length = cs.length) (hc : cs.length ≤ 64) (L : Led H ((P, .lst (as.map V.ref)) :: enF as (cs.map V.int)) H1)
    (Pv : L2.St → Hp → Prop) (h0 : Pv σ H1) (hB : ∀ σ H, Pv σ H → Led H1 [] H)
    (hs : ∀ N : Nat → L2.St → Hp → Prop, (∀ i σ H, Pv σ H → N i σ H) → ∀ (i : Nat) (c : Int) σ H, i < 64 → Pv σ H → tb { D with nx := N (i + 1), ct := N (i + 1), bk := D.nx } ((σ.set j (some (.int (i : Nat)))).set k (some (.int c))) H)
    (hd : ∀ σ H, Pv σ H → D.nx σ H) : ForG (Itl K P) (g2 K j k) tb D σ H1 := by
  have hP : H1 P = some (.lst (as.map V.ref)) := L.get 0 rfl
  have hT : ∀ (i : Nat) b x y, as[i]? = some b → ((List.range as.length).map fun j => V.int (j : Nat))[i]? = some x → (cs.map V.int)[i]? = some y → H1 b = some (.tup [x, y]) := by
    intro i b x y h1 h2 h3
    have hi := lt_of_get h1
    rw [List.getElem?_map, List.getElem?_range hi] at h2
    cases h2
    exact (L.own _ (List.mem_cons_of_mem _ (enF_get (by rw [List.length_map]; exact hl) h1 h3))).1
  refine for_lp (as := as) (xs := (List.range as.length).map fun j => V.int (j : Nat)) (ys := cs.map V.int) (by simp) (by simp [hl]) (fun i σ H2 => Pv σ H2) h0 ?_ ?_ hd
  · intro i σ H2 p
    have L2 := hB σ H2 p
    exact ⟨SqL.of (L2.base _ _ hP), fun i b x y h1 h2 h3 => SqT.of (L2.base _ _ (hT i b x y h1 h2 h3))⟩
  · intro N hN i x y σ H2 hx hy p
    obtain ⟨c, hc, rfl⟩ : ∃ c : Int, cs[i]? = some c ∧ y = .int c := by
      rw [List.getElem?_map] at hy
      cases e : cs[i]? with
      | none => rw [e] at hy; cases hy
      | some c => rw [e] at hy; cases hy; exact ⟨c, rfl, rfl⟩
    have hi : i < as.length := by
      have := lt_of_get hx
      rw [List.length_map, List.length_range] at this
      exact this
    rw [List.getElem?_map, List.getElem?_range hi] at hx
    cases hx
    exact hs N hN i c σ H2 (by omega) p
/-- [_law_draw(hand, wide) for j in range(n)] -/
theorem lc_draw {j h w n : Nat} {lo : Int} {P : Addr} {Qd : Hp → Prop} (L : Led B F H) (hP : H P = none) (i : Nat) (hF : F[i]? = some (a, .lst [.int d, .int m])) (hm : m < 2147483587) (hl : 0 < l) (hl2 : l < 1073741824)
    (hh : ∀ x, ((wipe σ [j]).set j x)[h]? = some (some (.ref a))) (hw : ∀ x, ((wipe σ [j]).set j x)[w]? = some (some (.int l))) (hj : ∀ x, wipe ((wipe σ [j]).set j x) [j] = wipe σ [j]) (hn : n < sizeLine)
    (q : ∀ H' (d' m' : Nat) (ls : List Nat), ls.length = n → (∀ x ∈ ls, x < l) → m' < 2147483587 → Led B ((P, .lst (nints ls)) :: F.set i (a, .lst [.int d', .int m'])) H' → Qd H') :
    LcG (Itr lo n) (gName j) tYes (tGo (sp__law_draw K C) (fun _ => E0) (tCons (tVar h) (tCons (tVar w) tNil))) [j] σ P Qd H := by
  refine lc_g walk_range (fun k H' => ∃ (d' m' : Nat) (ls : List Nat), ls.length = k ∧ (∀ x ∈ ls, x < l) ∧ m' < 2147483587 ∧ Led B ((P, .lst (nints ls)) :: F.set i (a, .lst [.int d', .int m'])) H') ?_ (fun _ _ _ _ => trivial) ?_ ?_
  · refine ⟨d, m, [], rfl, fun x hx => (nomatch hx), hm, ?_⟩
    have e : F.set i (a, .lst [.int d, .int m]) = F := by
      apply List.ext_getElem?
      intro k
      by_cases hk : i = k
      · subst hk
        rw [List.getElem?_set_self (lt_of_get hF), hF]
      · rw [List.getElem?_set_ne hk]
    rw [e]
    exact L.new hP
  · rintro k x H1 H2 hk ⟨d', m', ls, e1, e2, e3, L1⟩ y
    obtain ⟨e, y⟩ := y
    subst e
    subst y
    have hF' : (F.set i (a, HO.lst [.int d', .int m']))[i]? = some (a, .lst [.int d', .int m']) := List.getElem?_set_self (lt_of_get hF)
    have hF2 : ((P, HO.lst (nints ls)) :: F.set i (a, HO.lst [.int d', .int m']))[i + 1]? = some (a, .lst [.int d', .int m']) := by
      rw [List.getElem?_cons_succ]
      exact hF'
    refine ⟨hj _, ?_⟩
    rw [a_yes, if_pos rfl]
    refine ⟨_, hh _, _, hw _, ?_⟩
    simp only [a_nil]
    refine use_draw L1 (i + 1) hF2 e3 hl hl2 fun H3 d3 m3 g hm3 hg L3 => ?_
    rw [List.set_cons_succ, List.set_set] at L3
    refine ⟨_, L3.get 0 rfl, by rw [nints_len, e1]; omega, d3, m3, ls ++ [g], ?_, ?_, hm3, ?_⟩
    · rw [List.length_append, e1]
      rfl
    · intro x hx
      rcases List.mem_append.mp hx with z | z
      · exact e2 x z
      · rw [List.mem_singleton.mp z]
        exact hg
    · have e4 : nints (ls ++ [g]) = nints ls ++ [.int (g : Nat)] := by simp [nints]
      rw [e4]
      exact L3.put 0 rfl
  · rintro H' ⟨d', m', ls, e1, e2, e3, L1⟩
    exact q H' d' m' ls e1 e2 e3 L1
end
end Mi

namespace Mi
open PySem PySem.Spec PyProof.Rows L2
/-- figures of a number -/
structure Good (b : Nat) (l : List Nat) : Prop where
  ne : l ≠ []
  bd : ∀ d ∈ l, d < b
  hd : l.length = 1 ∨ ∀ d, l.head? = some d → 0 < d
  len : l.length ≤ 800
def sp__law_wide (K : PySem.W.Frag) (C : Str → Addr) : Sp := fun vs H Q E => ∃ (a : Addr) (d m most : Nat), vs = [.ref a, .int most] ∧ H a = some (.lst [.int d, .int m]) ∧ m < 2147483587 ∧ 0 < most ∧
  ∀ H' (d' m' g : Nat), m' < 2147483587 → g < most → Led (rmv H a) [(a, .lst [.int d', .int m'])] H' → Q (.int g) H'
def sp__law_mirrored (K : PySem.W.Frag) (C : Str → Addr) : Sp := fun vs H Q E => ∃ (a : Addr) (d m b s : Nat), vs = [.ref a, .int b, .int s] ∧ H a = some (.lst [.int d, .int m]) ∧ m < 2147483587 ∧ 2 ≤ b ∧ b ≤ 36 ∧ 1 ≤ s ∧ s ≤ 800 ∧
  ∀ H' (d' m' : Nat) (l : List Nat), m' < 2147483587 → Good b l → (∀ x, l.head? = some x → 0 < x) → l.length = s → l.reverse = l → Led (rmv H a) [(a, .lst [.int d', .int m'])] H' → Q (.int (val b l : Nat)) H'
def sp__law_number (K : PySem.W.Frag) (C : Str → Addr) : Sp := fun vs H Q E => ∃ (a : Addr) (d m b most : Nat), vs = [.ref a, .int b, .int most] ∧ H a = some (.lst [.int d, .int m]) ∧ m < 2147483587 ∧ 2 ≤ b ∧ b ≤ 36 ∧ most < lim ∧
  ∀ H' (d' m' g : Nat), m' < 2147483587 → g ≤ most → Led (rmv H a) [(a, .lst [.int d', .int m'])] H' → Q (.int g) H'
section
variable {K : PySem.W.Frag} {C : Str → Addr} {H B : Hp} {Q : VK} {E : XK} {F : List (Addr × HO)} {a : Addr} {d m : Nat}
theorem use_wide {most : Nat} (L : Led B F H) (i : Nat) (hF : F[i]? = some (a, .lst [.int d, .int m])) (hm : m < 2147483587) (hl : 0 < most)
    (q : ∀ H' (d' m' g : Nat), m' < 2147483587 → g < most → Led B (F.set i (a, .lst [.int d', .int m'])) H' → Q (.int g) H') : sp__law_wide K C [.ref a, .int most] H Q E :=
  ⟨a, d, m, most, rfl, L.get i hF, hm, hl, fun H' d' m' g hm' hg M => q H' d' m' g hm' hg (L.stepOwn (G := []) i hF M)⟩
theorem use_mirrored {b s : Nat} (L : Led B F H) (i : Nat) (hF : F[i]? = some (a, .lst [.int d, .int m])) (hm : m < 2147483587) (hb : 2 ≤ b) (hb2 : b ≤ 36) (hs : 1 ≤ s) (hs2 : s ≤ 800)
    (q : ∀ H' (d' m' : Nat) (l : List Nat), m' < 2147483587 → Good b l → (∀ x, l.head? = some x → 0 < x) → l.length = s → l.reverse = l → Led B (F.set i (a, .lst [.int d', .int m'])) H' → Q (.int (val b l : Nat)) H') : sp__law_mirrored K C [.ref a, .int b, .int s] H Q E :=
  ⟨a, d, m, b, s, rfl, L.get i hF, hm, hb, hb2, hs, hs2, fun H' d' m' l hm' h1 h2 h3 h4 M => q H' d' m' l hm' h1 h2 h3 h4 (L.stepOwn (G := []) i hF M)⟩
theorem use_number {b most : Nat} (L : Led B F H) (i : Nat) (hF : F[i]? = some (a, .lst [.int d, .int m])) (hm : m < 2147483587) (hb : 2 ≤ b) (hb2 : b ≤ 36) (hl : most < lim)
    (q : ∀ H' (d' m' g : Nat), m' < 2147483587 → g ≤ most → Led B (F.set i (a, .lst [.int d', .int m'])) H' → Q (.int g) H') : sp__law_number K C [.ref a, .int b, .int most] H Q E :=
  ⟨a, d, m, b, most, rfl, L.get i hF, hm, hb, hb2, hl, fun H' d' m' g hm' hg M => q H' d' m' g hm' hg (L.stepOwn (G := []) i hF M)⟩
theorem use_power {b m : Nat} (hb : b ≤ 36) (hm : m ≤ 100000) (q : Q (.int ((b ^ m : Nat))) H) : sp__law_power K C [.int b, .int m] H Q E := ⟨b, m, rfl, hb, hm, q⟩
end
end Mi

/-! mirrored numbers -/
namespace Mi
section
variable {b : Nat}
abbrev ln (b n : Nat) : Nat := (figs b n).length
theorem ln_of {n s : Nat} (hb : 2 ≤ b) (hs : 1 ≤ s) (h1 : s = 1 ∨ b ^ (s - 1) ≤ n) (h2 : n < b ^ s) : ln b n = s := by
  have a1 : ln b n ≤ s := figs_len hb h2 (by omega)
  have a2 : 0 < ln b n := figs_len_pos
  rcases h1 with h1 | h1
  · omega
  · have a3 := lt_pow_figs hb n
    have a4 : s - 1 < ln b n := (Nat.pow_lt_pow_iff_right hb).mp (Nat.lt_of_le_of_lt h1 a3)
    omega
theorem ln_low {n : Nat} (hb : 2 ≤ b) (hn : 0 < n) : b ^ (ln b n - 1) ≤ n := pow_le_figs hb n hn
theorem ln_high {n : Nat} (hb : 2 ≤ b) : n < b ^ (ln b n) := lt_pow_figs hb n
theorem ln_pos {n : Nat} : 0 < ln b n := figs_len_pos
theorem ln_mono {m n : Nat} (hb : 2 ≤ b) (h : m ≤ n) : ln b m ≤ ln b n :=
  figs_len hb (Nat.lt_of_le_of_lt h (ln_high hb)) ln_pos
/-- the first figures of a number -/
theorem val_take {n k : Nat} (hb : 2 ≤ b) (hk : k ≤ ln b n) : val b ((figs b n).take k) = n / b ^ (ln b n - k) := by
  have e := val_figs hb n
  rw [← List.take_append_drop k (figs b n), val_append] at e
  have hl : ((figs b n).drop k).length = ln b n - k := List.length_drop ..
  have h2 := val_lt (b := b) (by omega) ((figs b n).drop k) (fun d hd => figs_bd hb n d (List.mem_of_mem_drop hd))
  rw [hl] at h2 e
  have hp : 0 < b ^ (ln b n - k) := Nat.pow_pos (by omega)
  have : n / b ^ (ln b n - k) = (val b ((figs b n).take k) * b ^ (ln b n - k) + val b ((figs b n).drop k)) / b ^ (ln b n - k) := by rw [e]
  rw [this, Nat.mul_comm, Nat.mul_add_div hp, Nat.div_eq_of_lt h2, Nat.add_zero]
def half (b n : Nat) : Nat := n / b ^ (ln b n / 2)
theorem half_eq {n : Nat} (hb : 2 ≤ b) : val b ((figs b n).take ((ln b n + 1) / 2)) = half b n := by
  rw [val_take hb (by have := ln_pos (b := b) (n := n); omega)]
  unfold half
  rw [show ln b n - (ln b n + 1) / 2 = ln b n / 2 by omega]
/-- the number of so many figures with a first half -/
def pal (b s h : Nat) : Nat := val b (figs b h ++ ((figs b h).take (s / 2)).reverse)
theorem pal_split (hb : 2 ≤ b) {s h : Nat} (hs : s / 2 ≤ ln b h) : ∃ r, r < b ^ (s / 2) ∧ pal b s h = h * b ^ (s / 2) + r := by
  unfold pal
  refine ⟨val b ((figs b h).take (s / 2)).reverse, ?_, ?_⟩
  · have := val_lt (b := b) (by omega) ((figs b h).take (s / 2)).reverse (fun d hd => figs_bd hb h d (List.mem_of_mem_take (List.mem_reverse.mp hd)))
    rwa [List.length_reverse, List.length_take, Nat.min_eq_left hs] at this
  · rw [val_append, val_figs hb, List.length_reverse, List.length_take, Nat.min_eq_left hs]
/-- a first half that is one -/
def Hf (b s h : Nat) : Prop := 1 ≤ s ∧ ln b h = (s + 1) / 2 ∧ (0 < h ∨ s = 1)
theorem Hf.of {s h : Nat} (hb : 2 ≤ b) (hs : 1 ≤ s) (h1 : b ^ ((s - 1) / 2) ≤ h) (h2 : h < b ^ ((s + 1) / 2)) : Hf b s h := by
  refine ⟨hs, ln_of hb (by omega) (Or.inr ?_) h2, Or.inl (Nat.lt_of_lt_of_le (Nat.pow_pos (by omega)) h1)⟩
  rw [show (s + 1) / 2 - 1 = (s - 1) / 2 by omega]
  exact h1
theorem hf_half {n : Nat} (hb : 2 ≤ b) : Hf b (ln b n) (half b n) := by
  have hl := ln_pos (b := b) (n := n)
  have hp : 0 < b ^ (ln b n / 2) := Nat.pow_pos (by omega)
  by_cases h1 : ln b n = 1
  · have e : half b n = n := by
      unfold half
      rw [h1, show 1 / 2 = 0 by decide, Nat.pow_zero, Nat.div_one]
    exact ⟨by omega, by rw [e, h1], Or.inr h1⟩
  · have hn : 0 < n := Nat.pos_of_ne_zero fun z => by
      subst z
      have : ln b 0 = 1 := ln_of hb (by decide) (Or.inl rfl) (Nat.pow_pos (by omega))
      omega
    refine Hf.of hb (by omega) ?_ ?_
    · unfold half
      rw [Nat.le_div_iff_mul_le hp, ← Nat.pow_add]
      have := ln_low hb hn
      rwa [show (ln b n - 1) / 2 + ln b n / 2 = ln b n - 1 by omega]
    · unfold half
      rw [Nat.div_lt_iff_lt_mul hp, ← Nat.pow_add]
      have := ln_high (n := n) hb
      rwa [show (ln b n + 1) / 2 + ln b n / 2 = ln b n by omega]
theorem hf_low {s h : Nat} (hb : 2 ≤ b) (hf : Hf b s h) (h0 : 0 < h) : b ^ ((s - 1) / 2) ≤ h := by
  have := ln_low hb h0
  rw [hf.2.1] at this
  rwa [show (s + 1) / 2 - 1 = (s - 1) / 2 by have := hf.1; omega] at this
theorem hf_high {s h : Nat} (hb : 2 ≤ b) (hf : Hf b s h) : h < b ^ ((s + 1) / 2) := by
  have := ln_high (n := h) hb
  rwa [hf.2.1] at this
/-- a first half, turned about -/
theorem pal_parts' (l : List Nat) (s : Nat) (hs : 1 ≤ s) (hl : l.length = (s + 1) / 2) : (l ++ (l.take (s / 2)).reverse).length = s ∧ (l ++ (l.take (s / 2)).reverse).reverse = l ++ (l.take (s / 2)).reverse := by
  have h1 : s / 2 ≤ l.length := by omega
  constructor
  · rw [List.length_append, List.length_reverse, List.length_take]
    omega
  · rw [List.reverse_append, List.reverse_reverse]
    apply List.ext_getElem?
    intro i
    by_cases h2 : i < s / 2
    · rw [List.getElem?_append_left (by rw [List.length_take]; omega), List.getElem?_take_of_lt h2, List.getElem?_append_left (by omega)]
    · rw [List.getElem?_append_right (by rw [List.length_take]; omega)]
      rw [show (l.take (s / 2)).length = s / 2 by rw [List.length_take]; omega]
      by_cases h3 : i < s
      · have e1 : i - s / 2 < l.length := by omega
        rw [List.getElem?_reverse e1]
        by_cases h4 : i < l.length
        · rw [List.getElem?_append_left h4]
          congr 1
          omega
        · rw [List.getElem?_append_right (by omega), List.getElem?_reverse (by rw [List.length_take]; omega), List.getElem?_take_of_lt (by rw [List.length_take]; omega)]
          congr 1
          rw [List.length_take]
          omega
      · rw [List.getElem?_eq_none (by rw [List.length_reverse]; omega), List.getElem?_eq_none (by rw [List.length_append, List.length_reverse, List.length_take]; omega)]
theorem figs_pal {s h : Nat} (hb : 2 ≤ b) (hf : Hf b s h) : figs b (pal b s h) = figs b h ++ ((figs b h).take (s / 2)).reverse := by
  unfold pal
  refine figs_val hb _ (by simp [figs_ne]) (fun d hd => ?_) ?_
  · rcases List.mem_append.mp hd with e | e
    · exact figs_bd hb h d e
    · exact figs_bd hb h d (List.mem_of_mem_take (List.mem_reverse.mp e))
  · rcases hf.2.2 with h0 | h0
    · right
      intro d hd
      rw [List.head?_append] at hd
      cases e : (figs b h).head? with
      | none => exact absurd (List.head?_eq_none_iff.mp e) figs_ne
      | some x =>
        rw [e] at hd
        cases hd
        exact figs_head hb h h0 _ e
    · left
      rw [(pal_parts' _ s hf.1 hf.2.1).1]
      exact h0
theorem ln_pal {s h : Nat} (hb : 2 ≤ b) (hf : Hf b s h) : ln b (pal b s h) = s := by
  show (figs b (pal b s h)).length = s
  rw [figs_pal hb hf]
  exact (pal_parts' _ s hf.1 hf.2.1).1
theorem mir_pal {s h : Nat} (hb : 2 ≤ b) (hf : Hf b s h) : mir b (pal b s h) = true := by
  unfold mir
  rw [figs_pal hb hf]
  exact decide_eq_true (pal_parts' _ s hf.1 hf.2.1).2.symm
theorem half_pal {s h : Nat} (hb : 2 ≤ b) (hf : Hf b s h) : half b (pal b s h) = h := by
  have hs := hf.1
  obtain ⟨r, hr, e⟩ := pal_split hb (s := s) (h := h) (by rw [hf.2.1]; omega)
  unfold half
  rw [ln_pal hb hf, e, Nat.mul_comm, Nat.mul_add_div (Nat.pow_pos (by omega)), Nat.div_eq_of_lt hr, Nat.add_zero]
theorem mir_eq {n : Nat} (hb : 2 ≤ b) (h : mir b n = true) : n = pal b (ln b n) (half b n) := by
  have hm : figs b n = (figs b n).reverse := of_decide_eq_true h
  have hl := ln_pos (b := b) (n := n)
  have e1 : figs b (half b n) = (figs b n).take ((ln b n + 1) / 2) := by
    rw [← half_eq hb]
    refine figs_val hb _ ?_ (fun d hd => figs_bd hb n d (List.mem_of_mem_take hd)) ?_
    · intro z
      have q : min ((ln b n + 1) / 2) (ln b n) = 0 := by
        have := congrArg List.length z
        rwa [List.length_take] at this
      omega
    · by_cases h0 : 0 < n
      · right
        intro d hd
        rw [List.head?_take] at hd
        split at hd
        · cases hd
        · exact figs_head hb n h0 d hd
      · left
        have h0 : n = 0 := by omega
        have : ln b n = 1 := ln_of hb (by decide) (Or.inl rfl) (by rw [h0]; exact Nat.pow_pos (by omega))
        rw [List.length_take]
        show min ((ln b n + 1) / 2) (ln b n) = 1
        omega
  unfold pal
  rw [e1]
  have e2 : (((figs b n).take ((ln b n + 1) / 2)).take (ln b n / 2)).reverse = (figs b n).drop ((ln b n + 1) / 2) := by
    rw [List.take_take, Nat.min_eq_left (by omega)]
    have : ((figs b n).take (ln b n / 2)).reverse = ((figs b n).reverse).drop (ln b n - ln b n / 2) := by
      rw [List.reverse_take]
    rw [this, ← hm]
    congr 1
    omega
  rw [e2, List.take_append_drop, val_figs hb]
theorem pal_mono {s h h' : Nat} (hb : 2 ≤ b) (h1 : s / 2 ≤ ln b h) (h2 : s / 2 ≤ ln b h') (hl : h < h') : pal b s h < pal b s h' := by
  obtain ⟨r, hr, e⟩ := pal_split hb h1
  obtain ⟨r', hr', e'⟩ := pal_split hb h2
  rw [e, e']
  calc h * b ^ (s / 2) + r < h * b ^ (s / 2) + b ^ (s / 2) := Nat.add_lt_add_left hr _
    _ = (h + 1) * b ^ (s / 2) := by rw [Nat.add_mul, Nat.one_mul]
    _ ≤ h' * b ^ (s / 2) := Nat.mul_le_mul_right _ hl
    _ ≤ h' * b ^ (s / 2) + r' := Nat.le_add_right _ _
theorem Hf.le2 {s h : Nat} (hf : Hf b s h) : s / 2 ≤ ln b h := by rw [hf.2.1]; omega
theorem half_mono {m n : Nat} (hb : 2 ≤ b) (h : m ≤ n) (hl : ln b m = ln b n) : half b m ≤ half b n := by
  unfold half
  rw [hl]
  exact Nat.div_le_div_right h
/-- two mirrored numbers of one length are ordered as their first halves -/
theorem mir_le {m n : Nat} (hb : 2 ≤ b) (hm : mir b m = true) (h : m ≤ n) (hl : ln b m = ln b n) : m ≤ pal b (ln b n) (half b n) := by
  rw [mir_eq hb hm, hl]
  have h1 := half_mono hb h hl
  have hf1 := hf_half (n := m) hb
  have hf2 := hf_half (n := n) hb
  rw [hl] at hf1
  rcases Nat.lt_or_eq_of_le h1 with z | z
  · exact Nat.le_of_lt (pal_mono hb hf1.le2 hf2.le2 z)
  · rw [z]
    exact Nat.le_refl _
theorem mir_ge {m n : Nat} (hb : 2 ≤ b) (hm : mir b m = true) (h : n ≤ m) (hl : ln b m = ln b n) : pal b (ln b n) (half b n) ≤ m := by
  rw [mir_eq hb hm, hl]
  have h1 := half_mono hb h hl.symm
  have hf1 := hf_half (n := m) hb
  have hf2 := hf_half (n := n) hb
  rw [hl] at hf1
  rcases Nat.lt_or_eq_of_le h1 with z | z
  · exact Nat.le_of_lt (pal_mono hb hf2.le2 hf1.le2 z)
  · rw [z]
    exact Nat.le_refl _
theorem half_low {n : Nat} : half b n * b ^ (ln b n / 2) ≤ n := by
  unfold half
  exact Nat.div_mul_le_self _ _
theorem half_up {n : Nat} (hb : 2 ≤ b) : n < (half b n + 1) * b ^ (ln b n / 2) := by
  unfold half
  exact Nat.lt_mul_of_div_lt (Nat.lt_succ_self _) (Nat.pow_pos (by omega))
/-- greatest figures alone are mirrored -/
theorem mir_top {s : Nat} (hb : 2 ≤ b) (hs : 1 ≤ s) : mir b (b ^ s - 1) = true ∧ ln b (b ^ s - 1) = s := by
  have hv : ∀ s, val b (List.replicate s (b - 1)) = b ^ s - 1 := by
    intro s
    induction s with
    | zero => rfl
    | succ s ih =>
      rw [List.replicate_succ, val_cons, ih, List.length_replicate, Nat.pow_succ]
      have hp : 0 < b ^ s := Nat.pow_pos (by omega)
      have : (b - 1) * b ^ s + b ^ s = b ^ s * b := by
        rw [← Nat.succ_mul, Nat.succ_eq_add_one, Nat.sub_add_cancel (by omega), Nat.mul_comm]
      omega
  have e : figs b (b ^ s - 1) = List.replicate s (b - 1) := by
    rw [← hv s]
    refine figs_val hb _ (fun z => by have := congrArg List.length z; simp at this; omega) (fun d hd => by rw [(List.mem_replicate.mp hd).2]; omega) (Or.inr fun d hd => ?_)
    rw [List.head?_replicate] at hd
    split at hd
    · cases hd
    · cases hd
      omega
  constructor
  · unfold mir
    rw [e, List.reverse_replicate]
    exact decide_eq_true rfl
  · show (figs b (b ^ s - 1)).length = s
    rw [e, List.length_replicate]
end
end Mi

/-! nearest mirrored numbers, how many, the so-manieth -/
namespace Mi
section
variable {b : Nat}
/-- the mirrored number with a number's own first half -/
abbrev own (b n : Nat) : Nat := pal b (ln b n) (half b n)
def lowM (b n : Nat) : Nat := if own b n ≤ n then own b n else if half b n = b ^ ((ln b n - 1) / 2) then b ^ (ln b n - 1) - 1 else pal b (ln b n) (half b n - 1)
def highM (b n : Nat) : Nat := pal b (ln b n) (half b n + if own b n < n then 1 else 0)
theorem pow_parts (s : Nat) : b ^ ((s + 1) / 2) * b ^ (s / 2) = b ^ s := by
  rw [← Nat.pow_add]
  congr 1
  omega
theorem ln_one {n : Nat} (hb : 2 ≤ b) (h : n < b) : ln b n = 1 := ln_of hb (by decide) (Or.inl rfl) (by rw [Nat.pow_one]; exact h)
theorem own_one {n : Nat} (hb : 2 ≤ b) (h : n < b) : own b n = n := by
  unfold own pal half
  rw [ln_one hb h, show 1 / 2 = 0 by decide, Nat.pow_zero, Nat.div_one, List.take_zero, List.reverse_nil, List.append_nil, val_figs hb]
theorem ln_two {n : Nat} (hb : 2 ≤ b) (h : 2 ≤ ln b n) : b ≤ n := by
  refine Nat.le_of_not_lt fun z => ?_
  rw [ln_one hb z] at h
  omega
/-- a first half less one -/
theorem hf_pred {n : Nat} (hb : 2 ≤ b) (h2 : 2 ≤ ln b n) (hn : half b n ≠ b ^ ((ln b n - 1) / 2)) : Hf b (ln b n) (half b n - 1) := by
  have hf := hf_half (n := n) hb
  have h0 : 0 < half b n := by
    rcases hf.2.2 with z | z
    · exact z
    · omega
  have l := hf_low hb hf h0
  exact Hf.of hb (by omega) (by omega) (Nat.lt_of_le_of_lt (Nat.sub_le _ _) (hf_high hb hf))
theorem own_two {n : Nat} (hb : 2 ≤ b) (h : ¬ own b n ≤ n) : 2 ≤ ln b n := by
  refine Nat.lt_of_not_le fun z => h ?_
  have : ln b n = 1 := by have := ln_pos (b := b) (n := n); omega
  have h2 := ln_high (n := n) hb
  rw [this, Nat.pow_one] at h2
  rw [own_one hb h2]
  exact Nat.le_refl _
theorem pal_lt {n h : Nat} (hb : 2 ≤ b) (hf : Hf b (ln b n) h) (hh : h < half b n) : pal b (ln b n) h < n := by
  obtain ⟨r, hr, e⟩ := pal_split hb hf.le2
  rw [e]
  calc h * b ^ (ln b n / 2) + r < h * b ^ (ln b n / 2) + b ^ (ln b n / 2) := Nat.add_lt_add_left hr _
    _ = (h + 1) * b ^ (ln b n / 2) := by rw [Nat.add_mul, Nat.one_mul]
    _ ≤ half b n * b ^ (ln b n / 2) := Nat.mul_le_mul_right _ hh
    _ ≤ n := half_low
theorem low_spec {n : Nat} (hb : 2 ≤ b) : mir b (lowM b n) = true ∧ lowM b n ≤ n ∧ ∀ m, mir b m = true → m ≤ n → m ≤ lowM b n := by
  have hf := hf_half (n := n) hb
  unfold lowM
  by_cases h1 : own b n ≤ n
  · rw [if_pos h1]
    refine ⟨mir_pal hb hf, h1, fun m hm hl => ?_⟩
    rcases Nat.lt_or_eq_of_le (ln_mono hb hl) with z | z
    · have a1 := ln_high (n := m) hb
      have a2 : b ^ ln b m ≤ b ^ (ln b n - 1) := Nat.pow_le_pow_right (by omega) (by omega)
      have a3 : ln b (own b n) = ln b n := ln_pal hb hf
      have a4 : 0 < own b n := Nat.pos_of_ne_zero fun q => by
        rw [q, ln_one hb (by omega)] at a3
        have := ln_pos (b := b) (n := m)
        omega
      have a5 := ln_low hb a4
      rw [a3] at a5
      omega
    · exact mir_le hb hm hl z
  · rw [if_neg h1]
    have h2 := own_two hb h1
    have hn : 0 < n := Nat.lt_of_lt_of_le (by omega) (ln_two hb h2)
    by_cases h3 : half b n = b ^ ((ln b n - 1) / 2)
    · rw [if_pos h3]
      obtain ⟨t1, t2⟩ := mir_top hb (s := ln b n - 1) (by omega)
      have t3 := ln_low hb hn
      refine ⟨t1, by omega, fun m hm hl => ?_⟩
      rcases Nat.lt_or_eq_of_le (ln_mono hb hl) with z | z
      · have a1 := ln_high (n := m) hb
        have a2 : b ^ ln b m ≤ b ^ (ln b n - 1) := Nat.pow_le_pow_right (by omega) (by omega)
        omega
      · exfalso
        have q := half_mono hb hl z
        have hfm := hf_half (n := m) hb
        rw [z] at hfm
        have h0 : 0 < half b m := by
          rcases hfm.2.2 with y | y
          · exact y
          · omega
        have l := hf_low hb hfm h0
        have e : half b m = half b n := by omega
        have : m = own b n := by
          rw [mir_eq hb hm, z, e]
        omega
    · rw [if_neg h3]
      have hf' := hf_pred hb h2 h3
      have h0 : 0 < half b n := by
        rcases hf.2.2 with y | y
        · exact y
        · omega
      refine ⟨mir_pal hb hf', Nat.le_of_lt (pal_lt hb hf' (by omega)), fun m hm hl => ?_⟩
      rcases Nat.lt_or_eq_of_le (ln_mono hb hl) with z | z
      · have a1 := ln_high (n := m) hb
        have a2 : b ^ ln b m ≤ b ^ (ln b n - 1) := Nat.pow_le_pow_right (by omega) (by omega)
        have a3 : ln b (pal b (ln b n) (half b n - 1)) = ln b n := ln_pal hb hf'
        have a4 : 0 < pal b (ln b n) (half b n - 1) := Nat.pos_of_ne_zero fun q => by
          rw [q, ln_one hb (by omega)] at a3
          omega
        have a5 := ln_low hb a4
        rw [a3] at a5
        omega
      · have q := half_mono hb hl z
        have ne : half b m ≠ half b n := fun e => by
          have : m = own b n := by rw [mir_eq hb hm, z, e]
          omega
        have hfm := hf_half (n := m) hb
        rw [z] at hfm
        rw [mir_eq hb hm, z]
        rcases Nat.lt_or_eq_of_le (show half b m ≤ half b n - 1 by omega) with y | y
        · exact Nat.le_of_lt (pal_mono hb hfm.le2 hf'.le2 y)
        · rw [y]
          exact Nat.le_refl _
/-- a first half of greatest figures alone is a top's -/
theorem half_top {n : Nat} (hb : 2 ≤ b) (h : half b n + 1 = b ^ ((ln b n + 1) / 2)) : n ≤ own b n := by
  have hf := hf_half (n := n) hb
  have hl := ln_pos (b := b) (n := n)
  obtain ⟨t1, t2⟩ := mir_top hb (s := ln b n) hl
  have h1 := ln_high (n := n) hb
  have e : half b (b ^ ln b n - 1) = half b n := by
    have hf2 := hf_half (n := b ^ ln b n - 1) hb
    rw [t2] at hf2
    have u := hf_high hb hf2
    have m := half_mono hb (show n ≤ b ^ ln b n - 1 by omega) t2.symm
    omega
  have : own b n = b ^ ln b n - 1 := by
    have := mir_eq hb t1
    rw [t2, e] at this
    exact this.symm
  omega
theorem hf_succ {n : Nat} (hb : 2 ≤ b) (h : own b n < n) : Hf b (ln b n) (half b n + 1) := by
  have hf := hf_half (n := n) hb
  have h2 := hf_high hb hf
  have ne : half b n + 1 ≠ b ^ ((ln b n + 1) / 2) := fun e => by
    have := half_top hb e
    omega
  have hl := ln_pos (b := b) (n := n)
  have two : 2 ≤ ln b n := by
    refine Nat.lt_of_not_le fun z => ?_
    have : ln b n = 1 := by omega
    have h3 := ln_high (n := n) hb
    rw [this, Nat.pow_one] at h3
    rw [own_one hb h3] at h
    omega
  have h0 : 0 < half b n := by
    rcases hf.2.2 with y | y
    · exact y
    · omega
  have l := hf_low hb hf h0
  exact Hf.of hb hl (by omega) (by omega)
theorem high_spec {n : Nat} (hb : 2 ≤ b) : mir b (highM b n) = true ∧ n ≤ highM b n ∧ ∀ m, mir b m = true → n ≤ m → highM b n ≤ m := by
  have hf := hf_half (n := n) hb
  unfold highM
  by_cases h1 : own b n < n
  · rw [if_pos h1]
    have hf' := hf_succ hb h1
    have big : n < pal b (ln b n) (half b n + 1) := by
      obtain ⟨r, hr, e⟩ := pal_split hb hf'.le2
      rw [e]
      exact Nat.lt_of_lt_of_le (half_up hb) (Nat.le_add_right _ _)
    refine ⟨mir_pal hb hf', Nat.le_of_lt big, fun m hm hl => ?_⟩
    rcases Nat.lt_or_eq_of_le (ln_mono hb hl) with z | z
    · have a0 : 0 < m := Nat.pos_of_ne_zero fun q => by
        subst q
        rw [ln_one (n := 0) hb (by omega)] at z
        have := ln_pos (b := b) (n := n)
        omega
      have a1 := ln_low hb a0
      have a2 : b ^ ln b n ≤ b ^ (ln b m - 1) := Nat.pow_le_pow_right (by omega) (by omega)
      have a3 := ln_high (n := pal b (ln b n) (half b n + 1)) hb
      rw [ln_pal hb hf'] at a3
      omega
    · have q := half_mono hb hl z
      have ne : half b m ≠ half b n := fun e => by
        have : m = own b n := by rw [mir_eq hb hm, ← z, e]
        omega
      have hfm := hf_half (n := m) hb
      rw [← z] at hfm
      rw [mir_eq hb hm, ← z]
      rcases Nat.lt_or_eq_of_le (show half b n + 1 ≤ half b m by omega) with y | y
      · exact Nat.le_of_lt (pal_mono hb hf'.le2 hfm.le2 y)
      · rw [y]
        exact Nat.le_refl _
  · rw [if_neg h1, Nat.add_zero]
    refine ⟨mir_pal hb hf, Nat.le_of_not_lt h1, fun m hm hl => ?_⟩
    rcases Nat.lt_or_eq_of_le (ln_mono hb hl) with z | z
    · have a0 : 0 < m := Nat.pos_of_ne_zero fun q => by
        subst q
        rw [ln_one (n := 0) hb (by omega)] at z
        have := ln_pos (b := b) (n := n)
        omega
      have a1 := ln_low hb a0
      have a2 : b ^ ln b n ≤ b ^ (ln b m - 1) := Nat.pow_le_pow_right (by omega) (by omega)
      have a3 := ln_high (n := own b n) hb
      rw [ln_pal hb hf] at a3
      exact Nat.le_of_lt (Nat.lt_of_lt_of_le a3 (Nat.le_trans a2 a1))
    · exact mir_ge hb hm hl z.symm
/-- how many mirrored numbers there are from 1 -/
def cnt (b : Nat) : Nat → Nat
  | 0 => 0
  | n + 1 => cnt b n + if mir b (n + 1) = true then 1 else 0
def ofSize (b s : Nat) : Nat := (b - 1) * b ^ ((s - 1) / 2)
def below (b : Nat) : Nat → Nat
  | 0 => 0
  | s + 1 => below b s + if s = 0 then 0 else ofSize b s
def manyF (b n : Nat) : Nat := if n = 0 then 0 else half b n - b ^ ((ln b n - 1) / 2) + (if own b n ≤ n then 1 else 0) + below b (ln b n)
theorem mir_iff {n : Nat} (hb : 2 ≤ b) : mir b n = true ↔ own b n = n := ⟨fun h => (mir_eq hb h).symm, fun h => by rw [← h]; exact mir_pal hb (hf_half hb)⟩
theorem many_succ {n : Nat} (hb : 2 ≤ b) : manyF b (n + 1) = manyF b n + if mir b (n + 1) = true then 1 else 0 := by
  have hf := hf_half (n := n + 1) hb
  have hf0 := hf_half (n := n) hb
  by_cases hn : n = 0
  · subst hn
    have l1 : ln b 1 = 1 := ln_one hb (by omega)
    have o1 : own b 1 = 1 := own_one hb (by omega)
    have h1 : half b 1 = 1 := by
      unfold half
      rw [l1, show 1 / 2 = 0 by decide, Nat.pow_zero, Nat.div_one]
    have m1 : mir b 1 = true := (mir_iff hb).mpr o1
    unfold manyF
    rw [if_neg (by decide), if_pos rfl, if_pos m1, if_pos (by rw [o1]; exact Nat.le_refl _), l1, h1]
    simp [below]
  · have e1 : manyF b (n + 1) = half b (n + 1) - b ^ ((ln b (n + 1) - 1) / 2) + (if own b (n + 1) ≤ n + 1 then 1 else 0) + below b (ln b (n + 1)) := if_neg (by omega)
    have e0 : manyF b n = half b n - b ^ ((ln b n - 1) / 2) + (if own b n ≤ n then 1 else 0) + below b (ln b n) := if_neg hn
    rcases Nat.lt_or_eq_of_le (ln_mono hb (Nat.le_succ n)) with z | z
    · -- a length ends
      have z' : ln b n < ln b (n + 1) := z
      have a1 := ln_high (n := n) hb
      have a2 := ln_low hb (show 0 < n + 1 by omega)
      have a3 : b ^ ln b n ≤ b ^ (ln b (n + 1) - 1) := Nat.pow_le_pow_right (by omega) (by omega)
      have en : n + 1 = b ^ ln b n := by omega
      have el : ln b (n + 1) = ln b n + 1 := by
        have : b ^ (ln b (n + 1) - 1) = b ^ ln b n := by omega
        have := (Nat.pow_right_inj (by omega)).mp this
        omega
      generalize hs : ln b n = s at *
      have hs1 : 1 ≤ s := by rw [← hs]; exact ln_pos
      -- n is the top
      obtain ⟨t1, t2⟩ := mir_top hb (s := s) hs1
      have en' : n = b ^ s - 1 := by omega
      have mn : mir b n = true := by rw [en']; exact t1
      have on : own b n = n := (mir_iff hb).mp mn
      have hh : half b n + 1 = b ^ ((s + 1) / 2) := by
        unfold half
        rw [hs, en']
        have p1 := pow_parts (b := b) s
        have hp : 0 < b ^ (s / 2) := Nat.pow_pos (by omega)
        have hq : 0 < b ^ ((s + 1) / 2) := Nat.pow_pos (by omega)
        have : b ^ s - 1 = b ^ (s / 2) * (b ^ ((s + 1) / 2) - 1) + (b ^ (s / 2) - 1) := by
          have q1 : b ^ (s / 2) ≤ b ^ (s / 2) * b ^ ((s + 1) / 2) := Nat.le_mul_of_pos_right _ hq
          rw [Nat.mul_comm] at p1
          rw [Nat.mul_sub_one, p1]
          rw [p1] at q1
          omega
        rw [this, Nat.mul_add_div hp, Nat.div_eq_of_lt (Nat.sub_lt hp Nat.one_pos), Nat.add_zero]
        exact Nat.sub_add_cancel hq
      have hh1 : half b (n + 1) = b ^ (s / 2) := by
        unfold half
        rw [el, en]
        refine Nat.div_eq_of_eq_mul_left (Nat.pow_pos (by omega)) ?_
        rw [← Nat.pow_add]
        congr 1
        omega
      have ho1 : ¬ own b (n + 1) ≤ n + 1 := by
        obtain ⟨r, hr, e⟩ := pal_split hb hf.le2
        have hm : mir b (own b (n + 1)) = true := mir_pal hb hf
        intro q
        have q2 : own b (n + 1) = n + 1 := by
          have : half b (n + 1) * b ^ (ln b (n + 1) / 2) = n + 1 := by
            rw [hh1, el, en, ← Nat.pow_add]
            congr 1
            omega
          unfold own at q ⊢
          omega
        -- b ^ s is not mirrored: its last figure is 0
        have q3 : mir b (n + 1) = true := (mir_iff hb).mpr q2
        have q4 : figs b (n + 1) = (figs b (n + 1)).reverse := of_decide_eq_true q3
        have q5 : digs b (n + 1) = figs b (n + 1) := by
          rw [q4]
          unfold figs
          rw [List.reverse_reverse]
        have q6 : (digs b (n + 1)).head? = some 0 := by
          have hb' : b ≤ n + 1 := by
            rw [en]
            calc b = b ^ 1 := (Nat.pow_one b).symm
              _ ≤ b ^ s := Nat.pow_le_pow_right (by omega) hs1
          rw [digs_ge hb hb', List.head?_cons, en]
          congr 1
          obtain ⟨k, rfl⟩ : ∃ k, s = k + 1 := ⟨s - 1, by omega⟩
          rw [Nat.pow_succ]
          exact Nat.mul_mod_left _ _
        rw [q5] at q6
        have := figs_head hb (n + 1) (by omega) 0 q6
        omega
      have hm1 : ¬ mir b (n + 1) = true := fun q => ho1 (by rw [(mir_iff hb).mp q]; exact Nat.le_refl _)
      rw [e1, e0, if_neg ho1, if_neg hm1, if_pos (by rw [on]; exact Nat.le_refl _), el, hh1]
      have eb : below b (s + 1) = below b s + ofSize b s := by
        show below b s + (if s = 0 then 0 else ofSize b s) = _
        rw [if_neg (by omega)]
      have eo : ofSize b s + b ^ ((s - 1) / 2) = b ^ ((s + 1) / 2) := by
        unfold ofSize
        rw [← Nat.succ_mul, Nat.succ_eq_add_one, Nat.sub_add_cancel (by omega), show (s + 1) / 2 = (s - 1) / 2 + 1 by omega, Nat.pow_succ, Nat.mul_comm]
      rw [eb, show (s + 1 - 1) / 2 = s / 2 by omega, Nat.sub_self]
      have hl : b ^ ((s - 1) / 2) ≤ half b n := by
        have := hf_low hb hf0 (Nat.pos_of_ne_zero fun q => by
          rw [q] at hh
          have : b ^ 1 ≤ b ^ ((s + 1) / 2) := Nat.pow_le_pow_right (by omega) (by omega)
          rw [Nat.pow_one] at this
          omega)
        exact this
      omega
    · -- one length
      have z' : ln b n = ln b (n + 1) := z
      have hp : 0 < b ^ (ln b (n + 1) / 2) := Nat.pow_pos (by omega)
      have lo0 := half_low (b := b) (n := n)
      have up0 := half_up (n := n) hb
      have lo1 := half_low (b := b) (n := n + 1)
      have up1 := half_up (n := n + 1) hb
      rw [z'] at lo0 up0
      have hn0 : 0 < half b n := by
        rcases hf0.2.2 with y | y
        · exact y
        · have : half b n = n := by
            unfold half
            rw [y, show 1 / 2 = 0 by decide, Nat.pow_zero, Nat.div_one]
          omega
      have l0 := hf_low hb hf0 hn0
      rw [z'] at l0
      by_cases hc : half b (n + 1) = half b n
      · -- the same half
        have ow : own b (n + 1) = own b n := by
          unfold own
          rw [hc, z']
        rw [e1, e0, z', hc, ow]
        by_cases m1 : mir b (n + 1) = true
        · have := (mir_iff hb).mp m1
          rw [ow] at this
          rw [if_pos m1, if_pos (by omega), if_neg (by omega)]
          omega
        · have ne : own b n ≠ n + 1 := fun q => m1 ((mir_iff hb).mpr (ow.trans q))
          rw [if_neg m1]
          by_cases q : own b n ≤ n
          · rw [if_pos q, if_pos (by omega)]
            omega
          · rw [if_neg q, if_neg (by omega)]
            omega
      · -- the next half
        have hm := half_mono hb (Nat.le_succ n) z'
        have hlt : half b n + 1 ≤ half b (n + 1) := by
          have : half b n ≤ half b (n + 1) := hm
          omega
        have mul := Nat.mul_le_mul_right (b ^ (ln b (n + 1) / 2)) hlt
        have en : n + 1 = half b (n + 1) * b ^ (ln b (n + 1) / 2) := by omega
        have eh : half b (n + 1) = half b n + 1 := by
          refine Nat.le_antisymm ?_ hlt
          refine Nat.le_of_mul_le_mul_right ?_ hp
          omega
        have on : own b n ≤ n := by
          obtain ⟨r, hr, e⟩ := pal_split hb hf0.le2
          show pal b (ln b n) (half b n) ≤ n
          rw [e, z']
          rw [z'] at hr
          have : (half b n + 1) * b ^ (ln b (n + 1) / 2) = half b n * b ^ (ln b (n + 1) / 2) + b ^ (ln b (n + 1) / 2) := by rw [Nat.add_mul, Nat.one_mul]
          rw [eh, this] at en
          omega
        rw [e1, e0, z', if_pos on, eh]
        by_cases m1 : mir b (n + 1) = true
        · have := (mir_iff hb).mp m1
          rw [if_pos m1, if_pos (by omega)]
          omega
        · have ge : n + 1 ≤ own b (n + 1) := by
            obtain ⟨r, hr, e⟩ := pal_split hb hf.le2
            show n + 1 ≤ pal b (ln b (n + 1)) (half b (n + 1))
            rw [e, ← en]
            exact Nat.le_add_right _ _
          have ne : own b (n + 1) ≠ n + 1 := fun q => m1 ((mir_iff hb).mpr q)
          rw [if_neg m1, if_neg (by omega)]
          omega
theorem many_cnt (hb : 2 ≤ b) : ∀ n, manyF b n = cnt b n
  | 0 => rfl
  | n + 1 => by rw [many_succ hb, many_cnt hb n]; rfl
end
end Mi

namespace Mi
section
variable {b : Nat}
theorem cnt_mono {m n : Nat} (h : m ≤ n) : cnt b m ≤ cnt b n := by
  induction n with
  | zero =>
    rw [Nat.le_zero.mp h]
    exact Nat.le_refl _
  | succ n ih =>
    rcases Nat.lt_or_eq_of_le h with z | z
    · exact Nat.le_trans (ih (by omega)) (Nat.le_add_right _ _)
    · rw [z]
      exact Nat.le_refl _
theorem cnt_lt {m n : Nat} (h : m < n) (hm : mir b n = true) : cnt b m < cnt b n := by
  obtain ⟨k, rfl⟩ : ∃ k, n = k + 1 := ⟨n - 1, by omega⟩
  have h1 : cnt b m ≤ cnt b k := cnt_mono (by omega)
  show cnt b m < cnt b k + if mir b (k + 1) = true then 1 else 0
  rw [if_pos hm]
  omega
theorem cnt_inj {m n : Nat} (hm : mir b m = true) (hn : mir b n = true) (h : cnt b m = cnt b n) : m = n := by
  rcases Nat.lt_trichotomy m n with z | z | z
  · have := cnt_lt z hn
    omega
  · exact z
  · have := cnt_lt z hm
    omega
theorem cnt_le (n : Nat) : cnt b n ≤ n := by
  induction n with
  | zero => exact Nat.le_refl _
  | succ n ih =>
    show cnt b n + (if mir b (n + 1) = true then 1 else 0) ≤ n + 1
    split <;> omega
theorem ofSize_add {s : Nat} (hb : 2 ≤ b) (hs : 1 ≤ s) : ofSize b s + b ^ ((s - 1) / 2) = b ^ ((s + 1) / 2) := by
  unfold ofSize
  rw [← Nat.succ_mul, Nat.succ_eq_add_one, Nat.sub_add_cancel (by omega), show (s + 1) / 2 = (s - 1) / 2 + 1 by omega, Nat.pow_succ, Nat.mul_comm]
theorem below_succ {s : Nat} (hs : 1 ≤ s) : below b (s + 1) = below b s + ofSize b s := by
  show below b s + (if s = 0 then 0 else ofSize b s) = _
  rw [if_neg (by omega)]
theorem ofSize_pos {s : Nat} (hb : 2 ≤ b) : 0 < ofSize b s := Nat.mul_pos (by omega) (Nat.pow_pos (by omega))
theorem ofSize_ge {s : Nat} (hb : 2 ≤ b) : 2 ^ ((s - 1) / 2) ≤ ofSize b s := by
  unfold ofSize
  calc 2 ^ ((s - 1) / 2) ≤ b ^ ((s - 1) / 2) := Nat.pow_le_pow_left hb _
    _ = 1 * b ^ ((s - 1) / 2) := (Nat.one_mul _).symm
    _ ≤ (b - 1) * b ^ ((s - 1) / 2) := Nat.mul_le_mul_right _ (by omega)
theorem below_size {s k : Nat} (hb : 2 ≤ b) (hs : 1 ≤ s) (h : below b s ≤ k) (hk : k < lim) : s ≤ 1402 := by
  refine Nat.le_of_not_lt fun z => ?_
  have e : below b s = below b (s - 1) + ofSize b (s - 1) := by
    have := below_succ (b := b) (s := s - 1) (by omega)
    rwa [show s - 1 + 1 = s by omega] at this
  have h1 := ofSize_ge (s := s - 1) hb
  have h2 : 2 ^ 700 ≤ 2 ^ ((s - 1 - 1) / 2) := Nat.pow_le_pow_right (by omega) (by omega)
  have h3 := lim_pow
  omega
/-- the so-manieth, by its size -/
theorem at_spec {s left : Nat} (hb : 2 ≤ b) (hs : 1 ≤ s) (h : left < ofSize b s) : mir b (pal b s (b ^ ((s - 1) / 2) + left)) = true ∧ cnt b (pal b s (b ^ ((s - 1) / 2) + left)) = left + 1 + below b s ∧ 0 < pal b s (b ^ ((s - 1) / 2) + left) ∧ pal b s (b ^ ((s - 1) / 2) + left) < b ^ s := by
  have hp : 0 < b ^ ((s - 1) / 2) := Nat.pow_pos (by omega)
  have hf : Hf b s (b ^ ((s - 1) / 2) + left) := Hf.of hb hs (Nat.le_add_right _ _) (by rw [← ofSize_add hb hs]; omega)
  have hm := mir_pal hb hf
  have hl := ln_pal hb hf
  have hh := half_pal hb hf
  have h0 : 0 < pal b s (b ^ ((s - 1) / 2) + left) := by
    obtain ⟨r, hr, e⟩ := pal_split hb hf.le2
    rw [e]
    have : 0 < (b ^ ((s - 1) / 2) + left) * b ^ (s / 2) := Nat.mul_pos (by omega) (Nat.pow_pos (by omega))
    omega
  refine ⟨hm, ?_, h0, ?_⟩
  · rw [← many_cnt hb]
    unfold manyF
    rw [if_neg (by omega), if_pos (by rw [(mir_iff hb).mp hm]; exact Nat.le_refl _), hl, hh]
    omega
  · have := ln_high (n := pal b s (b ^ ((s - 1) / 2) + left)) hb
    rwa [hl] at this
theorem low_le {n : Nat} (hb : 2 ≤ b) : lowM b n ≤ n := (low_spec hb).2.1
theorem low_mir {n : Nat} (hb : 2 ≤ b) : mir b (lowM b n) = true := (low_spec hb).1
theorem low_max {n m : Nat} (hb : 2 ≤ b) (hm : mir b m = true) (h : m ≤ n) : m ≤ lowM b n := (low_spec hb).2.2 m hm h
theorem high_ge {n : Nat} (hb : 2 ≤ b) : n ≤ highM b n := (high_spec hb).2.1
theorem high_mir {n : Nat} (hb : 2 ≤ b) : mir b (highM b n) = true := (high_spec hb).1
theorem high_min {n m : Nat} (hb : 2 ≤ b) (hm : mir b m = true) (h : n ≤ m) : highM b n ≤ m := (high_spec hb).2.2 m hm h
theorem low_self {n : Nat} (hb : 2 ≤ b) (h : mir b n = true) : lowM b n = n := Nat.le_antisymm (low_le hb) (low_max hb h (Nat.le_refl _))
theorem high_self {n : Nat} (hb : 2 ≤ b) (h : mir b n = true) : highM b n = n := Nat.le_antisymm (high_min hb h (Nat.le_refl _)) (high_ge hb)
theorem mir_zero (hb : 2 ≤ b) : mir b 0 = true := (mir_iff hb).mpr (own_one hb (by omega))
theorem mir_small {n : Nat} (hb : 2 ≤ b) (h : n < b) : mir b n = true := (mir_iff hb).mpr (own_one hb h)
theorem low_pos {n : Nat} (hb : 2 ≤ b) (h : 0 < n) : 0 < lowM b n := low_max hb (mir_small hb (show 1 < b by omega)) h
theorem high_lt {n : Nat} (hb : 2 ≤ b) : highM b n < b ^ ln b n := by
  obtain ⟨t1, t2⟩ := mir_top hb (s := ln b n) ln_pos
  have h1 := ln_high (n := n) hb
  have := high_min hb t1 (show n ≤ b ^ ln b n - 1 by omega)
  have hp : 0 < b ^ ln b n := Nat.pow_pos (by omega)
  omega
theorem high_bound {n : Nat} (hb : 2 ≤ b) (hb2 : b ≤ 36) : highM b n ≤ 36 * (n + 1) := by
  have h1 := high_lt (n := n) hb
  by_cases hn : n = 0
  · subst hn
    rw [high_self hb (mir_zero hb)]
    omega
  · have h2 := ln_low hb (show 0 < n by omega)
    have h3 : b ^ ln b n = b ^ (ln b n - 1) * b := by
      rw [← Nat.pow_succ]
      congr 1
      have := ln_pos (b := b) (n := n)
      omega
    have h4 : b ^ (ln b n - 1) * b ≤ n * 36 := Nat.mul_le_mul h2 hb2
    omega
/-- how many to a number is the place of the greatest at most it -/
theorem cnt_low {n : Nat} (hb : 2 ≤ b) : cnt b (lowM b n) = cnt b n := by
  refine Nat.le_antisymm (cnt_mono (low_le hb)) ?_
  have key : ∀ k, lowM b n + k ≤ n → cnt b (lowM b n + k) = cnt b (lowM b n) := by
    intro k
    induction k with
    | zero => intro _; rfl
    | succ k ih =>
      intro hk
      have e : cnt b (lowM b n + (k + 1)) = cnt b (lowM b n + k) + if mir b (lowM b n + k + 1) = true then 1 else 0 := rfl
      have nm : ¬ mir b (lowM b n + k + 1) = true := fun z => by
        have := low_max hb z (show lowM b n + k + 1 ≤ n by omega)
        omega
      rw [e, if_neg nm, ih (by omega)]
      rfl
  have := key (n - lowM b n) (by have := low_le (n := n) hb; omega)
  rw [show lowM b n + (n - lowM b n) = n by have := low_le (n := n) hb; omega] at this
  omega
end
end Mi

/-! what the defs of nearest promise -/
namespace Mi
open PySem PySem.Spec PyProof.Rows L2
def lim1 : Nat := 10 ^ 150
theorem lim1_lim {n : Nat} (h : n < lim1) : 1000 * (n + 1) < lim := by
  have : 1000 * (lim1 + 1) < lim := by decide +kernel
  omega
/-- of a base, or none -/
def NB (K : PySem.W.Frag) (C : Str → Addr) (H : Hp) (E : XK) (x : V) (P : Nat → Prop) : Prop := Kn K H x ∧ (isBase x = false → E (.ref (C "NoBase")) none H) ∧ ∀ b : Nat, x = .int b → 2 ≤ b → b ≤ 36 → P b
theorem NB.good {K : PySem.W.Frag} {C : Str → Addr} {H : Hp} {E : XK} {b : Nat} {P : Nat → Prop} (hb : 2 ≤ b) (hb2 : b ≤ 36) (h : P b) : NB K C H E (.int b) P := by
  refine ⟨trivial, fun e => ?_, fun b' e _ _ => ?_⟩
  · exfalso
    have : isBase (.int (b : Nat)) = true := by simp [isBase]; omega
    rw [this] at e
    cases e
  · simp only [V.int.injEq] at e
    have : b = b' := by omega
    subst this
    exact h
theorem NB.need {K : PySem.W.Frag} {C : Str → Addr} {H : Hp} {Q : VK} {E : XK} {x : V} {P : Nat → Prop} (h : NB K C H E x P) (q : ∀ b : Nat, x = .int b → 2 ≤ b → b ≤ 36 → P b → Q .non H) : sp_need_base K C [x] H Q E := by
  refine ⟨x, rfl, h.1, fun hb => ?_, h.2.1⟩
  cases x with
  | int i =>
    simp only [isBase, Bool.and_eq_true, decide_eq_true_eq] at hb
    obtain ⟨b, rfl⟩ := Int.eq_ofNat_of_zero_le (show 0 ≤ i by omega)
    exact q b rfl (by omega) (by omega) (h.2.2 b rfl (by omega) (by omega))
  | _ => cases hb
def sp_power_of (K : PySem.W.Frag) (C : Str → Addr) : Sp := sp__law_power K C
def sp_half_of (K : PySem.W.Frag) (C : Str → Addr) : Sp := fun vs H Q E => ∃ n b : Nat, vs = [.int n, .int b] ∧ 2 ≤ b ∧ b ≤ 36 ∧ n < lim ∧ ∀ p H', Led H [(p, .tup [.int (ln b n : Nat), .int (half b n : Nat)])] H' → Q (.ref p) H'
def sp_mirror_of (K : PySem.W.Frag) (C : Str → Addr) : Sp := fun vs H Q E => ∃ h s b : Nat, vs = [.int h, .int s, .int b] ∧ 2 ≤ b ∧ b ≤ 36 ∧ h < lim ∧ s ≤ 100000 ∧ ∀ H', Led H [] H' → Q (.int (pal b s h : Nat)) H'
def sp_at_most (K : PySem.W.Frag) (C : Str → Addr) : Sp := fun vs H Q E => ∃ y x : V, vs = [y, x] ∧ NB K C H E x fun b => ∃ n : Nat, y = .int n ∧ n < lim1 ∧ ∀ H', Led H [] H' → Q (.int (lowM b n : Nat)) H'
def sp_at_least (K : PySem.W.Frag) (C : Str → Addr) : Sp := fun vs H Q E => ∃ y x : V, vs = [y, x] ∧ NB K C H E x fun b => ∃ n : Nat, y = .int n ∧ n < lim1 ∧ ∀ H', Led H [] H' → Q (.int (highM b n : Nat)) H'
def sp_many_of_size (K : PySem.W.Frag) (C : Str → Addr) : Sp := fun vs H Q E => ∃ s b : Nat, vs = [.int s, .int b] ∧ 1 ≤ s ∧ s ≤ 100000 ∧ 2 ≤ b ∧ b ≤ 36 ∧ Q (.int (ofSize b s : Nat)) H
def sp_many_to (K : PySem.W.Frag) (C : Str → Addr) : Sp := fun vs H Q E => ∃ y x : V, vs = [y, x] ∧ NB K C H E x fun b => ∃ n : Nat, y = .int n ∧ n < lim1 ∧ ∀ H', Led H [] H' → Q (.int (cnt b n : Nat)) H'
def sp_mirrored_at (K : PySem.W.Frag) (C : Str → Addr) : Sp := fun vs H Q E => ∃ y x : V, vs = [y, x] ∧ NB K C H E x fun b => ∃ n : Nat, y = .int n ∧ n < lim1 ∧ ∀ H' (r : Nat), mir b r = true → cnt b r = n → r ≤ 50000 * (n + 1) * (n + 1) → Led H [] H' → Q (.int r) H'
/-- whether a thing is a mirrored number -/
def mirV (b : Nat) : V → Bool
  | .int i => decide (0 ≤ i) && mir b i.toNat
  | _ => false
def Lim (n : Nat) : V → Prop
  | .int i => i < n
  | _ => True
def sp_is_mirrored (K : PySem.W.Frag) (C : Str → Addr) : Sp := fun vs H Q E => ∃ y x : V, vs = [y, x] ∧ NB K C H E x fun b => Kn K H y ∧ Lim lim y ∧ ∀ H', Led H [] H' → Q (.bl (mirV b y)) H'
def sp_place_of (K : PySem.W.Frag) (C : Str → Addr) : Sp := fun vs H Q E => ∃ y x : V, vs = [y, x] ∧ NB K C H E x fun b => Kn K H y ∧ Lim lim1 y ∧ (mirV b y = false → ∀ H', Led H [] H' → E (.ref (C "NoMirror")) none H') ∧ ∀ n : Nat, y = .int n → mir b n = true → ∀ H', Led H [] H' → Q (.int (cnt b n : Nat)) H'
end Mi

/-! powers, and the next mirrored one -/
namespace Mi
variable {b : Nat}
theorem val_rep0 (m : Nat) : val b (List.replicate m 0) = 0 := by
  induction m with
  | zero => rfl
  | succ m ih => rw [List.replicate_succ, val_cons, ih]; simp
theorem figs_pow (hb : 2 ≤ b) (k : Nat) : figs b (b ^ k) = 1 :: List.replicate k 0 := by
  have h := figs_val hb (1 :: List.replicate k 0) (by simp) (fun d hd => by
    rcases List.mem_cons.mp hd with e | e
    · omega
    · rw [(List.mem_replicate.mp e).2]
      omega) (Or.inr fun d hd => by
    cases hd
    decide)
  rw [val_cons, val_rep0, List.length_replicate] at h
  simpa using h
theorem ln_pow (hb : 2 ≤ b) (k : Nat) : ln b (b ^ k) = k + 1 := by
  show (figs b (b ^ k)).length = k + 1
  rw [figs_pow hb]
  simp
theorem half_pow (hb : 2 ≤ b) (k : Nat) : half b (b ^ k) = b ^ (k / 2) := by
  unfold half
  rw [ln_pow hb, Nat.pow_div (by omega) (by omega)]
  congr 1
  omega
theorem own_pow (hb : 2 ≤ b) {k : Nat} (hk : 1 ≤ k) : own b (b ^ k) = b ^ k + 1 := by
  show pal b (ln b (b ^ k)) (half b (b ^ k)) = _
  rw [ln_pow hb, half_pow hb]
  unfold pal
  rw [figs_pow hb]
  have e : (k + 1) / 2 = (k + 1) / 2 - 1 + 1 := by omega
  rw [e, List.take_succ_cons, List.reverse_cons, List.take_replicate, List.reverse_replicate, val_append, val_append, val_rep0, val_cons, val_rep0, val_one]
  simp only [List.length_append, List.length_replicate, List.length_cons, List.length_nil, Nat.one_mul, Nat.add_zero, Nat.zero_mul, Nat.zero_add]
  rw [← Nat.pow_add]
  congr 2
  omega
theorem low_pow (hb : 2 ≤ b) {k : Nat} (hk : 1 ≤ k) : lowM b (b ^ k) = b ^ k - 1 := by
  unfold lowM
  rw [if_neg (by rw [own_pow hb hk]; omega), if_pos (by rw [half_pow hb, ln_pow hb]; congr 1), ln_pow hb]
  rfl
theorem mir_pow1 (hb : 2 ≤ b) {k : Nat} (hk : 1 ≤ k) : mir b (b ^ k + 1) = true := by
  rw [← own_pow hb hk]
  exact mir_pal hb (hf_half hb)
theorem not_mir_pow (hb : 2 ≤ b) {k : Nat} (hk : 1 ≤ k) : mir b (b ^ k) = false := by
  cases e : mir b (b ^ k) with
  | false => rfl
  | true =>
    have := (mir_iff hb).mp e
    rw [own_pow hb hk] at this
    omega
theorem high_pow (hb : 2 ≤ b) {k : Nat} (hk : 1 ≤ k) : highM b (b ^ k) = b ^ k + 1 := by
  have h1 := high_ge (n := b ^ k) hb
  have h2 := high_min hb (mir_pow1 hb hk) (Nat.le_succ _)
  have h3 : highM b (b ^ k) ≠ b ^ k := fun e => by
    have := high_mir (n := b ^ k) hb
    rw [e, not_mir_pow hb hk] at this
    cases this
  omega
theorem figs_top (hb : 2 ≤ b) {s : Nat} (hs : 1 ≤ s) : figs b (b ^ s - 1) = List.replicate s (b - 1) := by
  have e : ∀ s, val b (List.replicate s (b - 1)) = b ^ s - 1 := by
    intro s
    induction s with
    | zero => rfl
    | succ s ih =>
      rw [List.replicate_succ, val_cons, ih, List.length_replicate, Nat.pow_succ, Nat.sub_mul]
      have h1 : 0 < b ^ s := Nat.pow_pos (by omega)
      have h2 : b ^ s ≤ b * b ^ s := Nat.le_mul_of_pos_left _ (by omega)
      rw [Nat.mul_comm (b ^ s) b]
      omega
  rw [← e]
  refine figs_val hb _ (by simp; omega) (fun d hd => ?_) (Or.inr fun d hd => ?_)
  · rw [(List.mem_replicate.mp hd).2]
    omega
  · rw [List.head?_replicate] at hd
    split at hd
    · cases hd
    · cases hd
      omega
/-- all figures the greatest -/
theorem all_top (hb : 2 ≤ b) {n : Nat} : (∀ d ∈ figs b n, d = b - 1) ↔ n = b ^ ln b n - 1 := by
  constructor
  · intro h
    have e : figs b n = List.replicate (ln b n) (b - 1) := List.eq_replicate_of_mem h
    have h2 := congrArg (val b) e
    rw [val_figs hb, ← figs_top hb ln_pos, val_figs hb] at h2
    exact h2
  · intro h d hd
    rw [h, figs_top hb ln_pos] at hd
    exact (List.mem_replicate.mp hd).2
theorem next_top (hb : 2 ≤ b) {n : Nat} (h : n = b ^ ln b n - 1) : highM b (n + 1) = n + 2 := by
  have h0 : 0 < b ^ ln b n := Nat.pow_pos (by omega)
  have e : n + 1 = b ^ ln b n := by omega
  rw [e, high_pow hb ln_pos]
  omega
theorem next_same (hb : 2 ≤ b) {n : Nat} (hm : mir b n = true) (h : n ≠ b ^ ln b n - 1) : highM b (n + 1) = pal b (ln b n) (half b n + 1) := by
  have hf := hf_half (n := n) hb
  have en := mir_eq hb hm
  have hlt : half b n + 1 < b ^ ((ln b n + 1) / 2) := by
    have h1 := hf_high hb hf
    by_cases c : half b n + 1 = b ^ ((ln b n + 1) / 2)
    · exfalso
      apply h
      obtain ⟨t1, t2⟩ := mir_top (b := b) (s := ln b n) hb ln_pos
      have h2 := mir_ge (m := b ^ ln b n - 1) (n := n) hb t1 (by have := ln_high (n := n) hb; omega) t2
      have h3 := mir_le (m := b ^ ln b n - 1) (n := b ^ ln b n - 1) hb t1 (Nat.le_refl _) rfl
      rw [t2] at h3
      have h4 : half b (b ^ ln b n - 1) ≤ half b n := by
        have := hf_high hb (hf_half (n := b ^ ln b n - 1) hb)
        rw [t2] at this
        omega
      have h5 : pal b (ln b n) (half b (b ^ ln b n - 1)) ≤ pal b (ln b n) (half b n) := by
        rcases Nat.lt_or_eq_of_le h4 with h6 | h6
        · have hf2 := hf_half (n := b ^ ln b n - 1) hb
          rw [t2] at hf2
          exact Nat.le_of_lt (pal_mono hb hf2.le2 hf.le2 h6)
        · rw [h6]
          exact Nat.le_refl _
      rw [← en] at h2 h5
      omega
    · omega
  have hf1 : Hf b (ln b n) (half b n + 1) := by
    by_cases c : 0 < half b n
    · exact Hf.of hb hf.1 (Nat.le_succ_of_le (hf_low hb hf c)) hlt
    · have e1 : ln b n = 1 := by
        rcases hf.2.2 with z | z
        · omega
        · exact z
      refine Hf.of hb hf.1 ?_ hlt
      rw [e1]
      simp
  have hmono : n < pal b (ln b n) (half b n + 1) := by
    have := pal_mono hb hf.le2 hf1.le2 (Nat.lt_succ_self (half b n))
    omega
  apply Nat.le_antisymm
  · exact high_min hb (mir_pal hb hf1) hmono
  · have hm2 := high_mir (n := n + 1) hb
    have hg := high_ge (n := n + 1) hb
    generalize highM b (n + 1) = m at hm2 hg
    have em := mir_eq hb hm2
    have hl := ln_mono hb (show n ≤ m by omega)
    rcases Nat.lt_or_eq_of_le hl with c | c
    · have h1 := ln_high (n := pal b (ln b n) (half b n + 1)) hb
      rw [ln_pal hb hf1] at h1
      have h2 := ln_low (n := m) hb (by omega)
      have h3 : b ^ ln b n ≤ b ^ (ln b m - 1) := Nat.pow_le_pow_right (by omega) (by omega)
      omega
    · have hh := half_mono hb (show n ≤ m by omega) c
      have hne : half b n ≠ half b m := fun z => by
        rw [← c, ← z, ← en] at em
        omega
      rw [em, ← c]
      rcases Nat.lt_or_eq_of_le (show half b n + 1 ≤ half b m by omega) with z | z
      · have hfm := hf_half (n := m) hb
        rw [← c] at hfm
        exact Nat.le_of_lt (pal_mono hb hf1.le2 hfm.le2 z)
      · rw [z]
        exact Nat.le_refl _
/-- no mirrored one between -/
theorem low_next (hb : 2 ≤ b) {n : Nat} : n < highM b (lowM b n + 1) := by
  apply Nat.lt_of_not_le
  intro h
  have h1 := low_max hb (high_mir (n := lowM b n + 1) hb) h
  have h2 := high_ge (n := lowM b n + 1) hb
  omega
theorem high_next (hb : 2 ≤ b) {n : Nat} (h : n < highM b n) : highM b n = highM b (lowM b n + 1) := by
  have h1 : lowM b n ≠ n := fun e => by
    have := low_mir (n := n) hb
    rw [e] at this
    have := high_self hb this
    omega
  have h2 := low_le (n := n) hb
  apply Nat.le_antisymm
  · exact high_min hb (high_mir hb) (Nat.le_of_lt (low_next hb))
  · exact high_min hb (high_mir hb) (Nat.le_trans (by omega) (high_ge (n := n) hb))
end Mi

namespace Mi
open PySem PySem.Spec PyProof.Rows L2
section
variable {K : PySem.W.Frag} {C : Str → Addr} {H B : Hp} {Q : VK} {E : XK} {F : List (Addr × HO)} {n b : Nat}
theorem use_low (L : Led B F H) (hb : 2 ≤ b) (hb2 : b ≤ 36) (hn : n < lim1) (q : ∀ H', Led B F H' → Q (.int (lowM b n : Nat)) H') : sp_at_most K C [.int n, .int b] H Q E :=
  ⟨_, _, rfl, NB.good hb hb2 ⟨n, rfl, hn, fun H' M => q H' (L.step0 M)⟩⟩
theorem use_high (L : Led B F H) (hb : 2 ≤ b) (hb2 : b ≤ 36) (hn : n < lim1) (q : ∀ H', Led B F H' → Q (.int (highM b n : Nat)) H') : sp_at_least K C [.int n, .int b] H Q E :=
  ⟨_, _, rfl, NB.good hb hb2 ⟨n, rfl, hn, fun H' M => q H' (L.step0 M)⟩⟩
theorem use_many (L : Led B F H) (hb : 2 ≤ b) (hb2 : b ≤ 36) (hn : n < lim1) (q : ∀ H', Led B F H' → Q (.int (cnt b n : Nat)) H') : sp_many_to K C [.int n, .int b] H Q E :=
  ⟨_, _, rfl, NB.good hb hb2 ⟨n, rfl, hn, fun H' M => q H' (L.step0 M)⟩⟩
theorem use_at (L : Led B F H) (hb : 2 ≤ b) (hb2 : b ≤ 36) (hn : n < lim1) (q : ∀ H' (r : Nat), mir b r = true → cnt b r = n → r ≤ 50000 * (n + 1) * (n + 1) → Led B F H' → Q (.int r) H') : sp_mirrored_at K C [.int n, .int b] H Q E :=
  ⟨_, _, rfl, NB.good hb hb2 ⟨n, rfl, hn, fun H' r h1 h2 h3 M => q H' r h1 h2 h3 (L.step0 M)⟩⟩
theorem use_is (L : Led B F H) (hb : 2 ≤ b) (hb2 : b ≤ 36) (hn : n < lim) (q : ∀ H', Led B F H' → Q (.bl (mir b n)) H') : sp_is_mirrored K C [.int n, .int b] H Q E :=
  ⟨_, _, rfl, NB.good hb hb2 ⟨trivial, (by show (n : Int) < lim; omega), fun H' M => q H' (L.step0 M)⟩⟩
theorem use_place (L : Led B F H) (hb : 2 ≤ b) (hb2 : b ≤ 36) (hn : n < lim1) (hm : mir b n = true) (q : ∀ H', Led B F H' → Q (.int (cnt b n : Nat)) H') : sp_place_of K C [.int n, .int b] H Q E := by
  refine ⟨_, _, rfl, NB.good hb hb2 ⟨trivial, (by show (n : Int) < lim1; omega), fun e => ?_, fun m e _ H' M => ?_⟩⟩
  · have e : mir b (n : Int).toNat = false := by
      have e : (decide ((0 : Int) ≤ (n : Int)) && mir b (n : Int).toNat) = false := e
      rwa [decide_eq_true (Int.natCast_nonneg n), Bool.true_and] at e
    rw [show (n : Int).toNat = n by omega, hm] at e
    cases e
  · have : n = m := by have := V.int.inj e; omega
    subst this
    exact q H' (L.step0 M)
theorem use_figs (L : Led B F H) (hb : 2 ≤ b) (hb2 : b ≤ 36) (hn : n < lim) (q : ∀ p H', Led B ((p, .lst (nints (figs b n))) :: F) H' → Q (.ref p) H') : sp__law_figures K C [.int n, .int b] H Q E :=
  ⟨n, b, rfl, hb, hb2, hn, fun p H' M => q p H' (L.step M)⟩
theorem use_val {a : Addr} {l : List Nat} (L : Led B F H) (hS : SqL K H a (nints l)) (hb2 : b ≤ 36) (hl : ∀ d ∈ l, d ≤ 36) (hn : l.length ≤ 100000) (q : ∀ H', Led B F H' → Q (.int (val b l : Nat)) H') : sp__law_value K C [.ref a, .int b] H Q E :=
  ⟨a, l, b, rfl, hS, hb2, hl, hn, fun H' M => q H' (L.step0 M)⟩
theorem use_lpow {m : Nat} (hb : b ≤ 36) (hm : m ≤ 100000) (q : Q (.int ((b ^ m : Nat))) H) : sp__law_power K C [.int b, .int m] H Q E := ⟨b, m, rfl, hb, hm, q⟩
theorem isi_uni {x : V} {c : String} {t0 : Value} {b0 : Bool} (ht : ∀ t, TyY K H x t → t = t0) (h0 : TyY K H x t0) (hk : PySem.W.kitOne K t0 (.type c) = some b0) : rIsiY K [x, .ty c] H Q = Q (.bl b0) H := by
  apply propext
  constructor
  · rintro ⟨x', c', t, u, b, e, hc, hty, hk', q⟩
    simp only [List.cons.injEq, and_true] at e
    obtain ⟨e1, e2⟩ := e
    subst e1
    subst e2
    cases hc
    rw [ht t hty, hk] at hk'
    cases hk'
    exact q
  · intro q
    exact ⟨x, .ty c, t0, .type c, b0, rfl, .ty _, h0, hk, q⟩
theorem ty_int {i : Int} (t : Value) (h : TyY K H (.int i) t) : t = .type "int" := by
  rcases h with h | ⟨a, e, _⟩
  · cases h with
    | base h => cases h; rfl
  · cases e
theorem ty_bl {i : Bool} (t : Value) (h : TyY K H (.bl i) t) : t = .type "bool" := by
  rcases h with h | ⟨a, e, _⟩
  · cases h with
    | base h => cases h; rfl
  · cases e
theorem isi_ii {i : Int} : rIsiY K [.int i, .ty "int"] H Q = Q (.bl true) H := isi_uni ty_int (.inl (.base (.int i))) (kit_ty (by decide +kernel))
theorem isi_ib {i : Int} : rIsiY K [.int i, .ty "bool"] H Q = Q (.bl false) H := isi_uni ty_int (.inl (.base (.int i))) (kit_ty (by decide +kernel))
theorem isi_bi {i : Bool} : rIsiY K [.bl i, .ty "int"] H Q = Q (.bl true) H := isi_uni ty_bl (.inl (.base (.bl i))) (kit_ty (by decide +kernel))
theorem isi_bb {i : Bool} : rIsiY K [.bl i, .ty "bool"] H Q = Q (.bl true) H := isi_uni ty_bl (.inl (.base (.bl i))) (kit_ty (by decide +kernel))
theorem a_tru {ta : TE} {σ : L2.St} {R : Bool → Hp → Prop} : tTru K ta σ H R = ta σ H fun x H' => ∃ k, TruV K x H' k ∧ R k H' := rfl
theorem b_isB {x y : V} : rIsB x y H Q = ∃ a b : Bool, x = .bl a ∧ y = .bl b ∧ Q (.bl (decide (a = b))) H := rfl
theorem b_notB {x y : V} : rNotB x y H Q = ∃ a b : Bool, x = .bl a ∧ y = .bl b ∧ Q (.bl (!decide (a = b))) H := rfl
theorem tru_bl {i k : Bool} : TruV K (.bl i) H k = (k = i) := propext ⟨fun h => (by cases h; rfl), fun h => h ▸ rfl⟩
end
end Mi

/-! texts of noughts -/
namespace Mi
open PySem PySem.Spec PyProof.Rows L2
def rMulS : R2 := fun x y H Q => ∃ a n, x = .str a ∧ y = .int n ∧ MulOk a n ∧ Q (.str (Txt.mul a n)) H
theorem op_mulS {X : Cx} : OpR X (binaryOp .Mult) rMulS := by
  intro pins s σ H x y v u Q I rx ry h
  obtain ⟨a, n, rfl, rfl, hk, q⟩ := h
  obtain ⟨t, rfl⟩ := (show ∃ t, v = Value.str a t from rx)
  obtain ⟨t2, rfl⟩ := (show ∃ t, u = Value.int n t from ry)
  exact PySem.SB.mul hk fun t' k => ⟨.str _, H, I.tok k, ⟨_, rfl⟩, q⟩
theorem b_mulS {x y : V} {H : Hp} {Q : VK} : rMulS x y H Q = ∃ a n, x = .str a ∧ y = .int n ∧ MulOk a n ∧ Q (.str (Txt.mul a n)) H := rfl
theorem b_addS {x y : V} {H : Hp} {Q : VK} : rAddS x y H Q = ∃ i j, x = .str i ∧ y = .str j ∧ i.length + j.length ≤ sizeLine ∧ Q (.str (i ++ j)) H := rfl
theorem b_intS {xs : List V} {H : Hp} {Q : VK} : rIntS xs H Q = ∃ a n, xs = [.str a] ∧ PySem.intText? a = some n ∧ a.length ≤ 640 ∧ Q (.int n) H := rfl
theorem b_lstRg {te : L2.St → Hp → (Int → Int → Hp → Prop) → Prop} {σ : L2.St} {H : Hp} {Q : VK} : tLstRg te σ H Q = te σ H fun a b H1 => RgOk a b ∧ ∀ q, H1 q = none → Q (.ref q) (upd H1 q (.lst (rgV a b))) := rfl
theorem b_rg1 {ta : TE} {σ : L2.St} {H : Hp} {R : Int → Int → Hp → Prop} : tRg1 ta σ H R = ta σ H fun x H1 => ∃ n, x = .int n ∧ R 0 n H1 := rfl
theorem b_rg2 {ta tb : TE} {σ : L2.St} {H : Hp} {R : Int → Int → Hp → Prop} : tRg2 ta tb σ H R = ta σ H fun x H1 => tb σ H1 fun y H2 => ∃ i j, x = .int i ∧ y = .int j ∧ R i j H2 := rfl
/-- a one and noughts -/
theorem ten_ok : ∀ g < 40, MulOk (Str.ofString "0") ((1 + g : Nat) : Int) ∧ (Txt.mul (Str.ofString "0") ((1 + g : Nat) : Int)).length = 1 + g ∧
    PySem.intText? (Str.ofString "1" ++ Txt.mul (Str.ofString "0") ((1 + g : Nat) : Int)) = some ((10 ^ (1 + g) : Nat) : Int) ∧ (Str.ofString "1" ++ Txt.mul (Str.ofString "0") ((1 + g : Nat) : Int)).length ≤ 640 := by
  unfold MulOk
  decide +kernel
end Mi

namespace Mi
open PySem PySem.Spec PyProof.Rows L2
theorem figs40 {b : Nat} (hb : 2 ≤ b) (hb2 : b ≤ 36) : 2 ≤ (figs b (10 ^ 40)).length := by
  refine Nat.lt_of_not_le fun z => ?_
  have h1 := lt_pow_figs hb (10 ^ 40)
  have h2 : b ^ (figs b (10 ^ 40)).length ≤ 36 ^ 1 := Nat.le_trans (Nat.pow_le_pow_right (by omega) z) (Nat.pow_le_pow_left hb2 1)
  have h3 : 10 ^ 40 < 36 ^ 1 := Nat.lt_of_lt_of_le h1 h2
  exact absurd h3 (by decide +kernel)
theorem flat_rep {x : V} : ∀ k : Nat, (List.replicate k [x]).flatten = List.replicate k x
  | 0 => rfl
  | k + 1 => by rw [List.replicate_succ, List.flatten_cons, flat_rep k]; rfl

theorem cut_from (xs : List V) (m : Nat) : cutV xs (some (m : Int)) none = xs.drop m := by
  unfold cutV
  rw [HT.sIx_none, HT.sIx_nat]
  rcases Nat.le_total m xs.length with h | h
  · rw [Nat.min_eq_left h, List.take_of_length_le (by rw [List.length_drop]; omega)]
  · rw [Nat.min_eq_right h, List.drop_of_length_le (Nat.le_refl _), List.drop_of_length_le h, List.take_nil]
theorem nints_sum (l : List Nat) : (l.map fun (d : Nat) => (d : Int)).sum = (l.sum : Nat) := by
  induction l with
  | nil => rfl
  | cons x l ih => rw [List.map_cons, List.sum_cons, List.sum_cons, ih]; simp
theorem small1 {n : Nat} (h : n < 10 ^ 140) : 1000000 * (n + 1) < lim1 := by
  have : 1000000 * (10 ^ 140 + 1) < lim1 := by decide +kernel
  omega
section
variable {K : PySem.W.Frag} {C : Str → Addr} {H B : Hp} {Q : VK} {E : XK} {F : List (Addr × HO)} {n b : Nat}
theorem use_figures (L : Led B F H) (hb : 2 ≤ b) (hb2 : b ≤ 36) (hn : n < lim) (q : ∀ p H', Led B ((p, .lst (nints (figs b n))) :: F) H' → Q (.ref p) H') : sp_figures K C [.int n, .int b] H Q E := by
  refine ⟨n, .int b, rfl, trivial, hn, fun e => ?_, fun b' e _ _ p H' M => ?_⟩
  · have : isBase (.int (b : Nat)) = true := by simp [isBase]; omega
    rw [this] at e
    cases e
  · have e : b = b' := by have := V.int.inj e; omega
    subst e
    exact q p H' (L.step M)
theorem use_numof {p : Addr} {l : List Nat} (L : Led B F H) (i : Nat) (hF : F[i]? = some (p, .lst (nints l))) (hb : 2 ≤ b) (hb2 : b ≤ 36) (g : Good b l) (q : ∀ H', Led B F H' → Q (.int (val b l : Nat)) H') : sp_number_of K C [.ref p, .int b] H Q E :=
  ⟨p, l, b, rfl, L.get i hF, hb, hb2, g.ne, g.bd, g.hd, by have := g.len; omega, fun H' M => q H' (L.step0 M)⟩
theorem good_figs (hb : 2 ≤ b) (hn : n < lim) : Good b (figs b n) := by
  refine ⟨figs_ne, figs_bd hb n, ?_, Nat.le_trans (figs_len_lim hb hn) (by decide)⟩
  by_cases c : n = 0
  · subst c
    left
    unfold figs
    rw [digs_lt (by omega)]
    rfl
  · right
    exact figs_head hb n (by omega)
end
end Mi

/-! xs[:c] = ys -/
namespace Mi
open PySem PySem.Spec PyProof.Rows L2
section
variable {P : Program} {w : World} {A : Around} {E : Value → Shared → Prop} {s : Shared}
theorem bounds_to {c n : Nat} (hc : c ≤ n) : sliceBounds none (some (c : Int)) none n = (0, (c : Int), 1) := by
  unfold sliceBounds
  simp only [Option.getD_none]
  rw [if_neg (show ¬ (c : Int) < 0 by omega)]
  simp
  omega
theorem store_to {l b sl : Addr} {xs ys : Array Value} {n m : Nat} {vu : Value} {c : Nat} {Q : Unit → Shared → Prop} (el : s.heap.get? l = some { cls := .type "list", data := .seq xs n }) (eb : s.heap.get? b = some { cls := .type "list", data := .seq ys m }) (ne : l ≠ b) (hs : s.heap.IsSliceOf sl .none vu .none)
    (pu : IsPart vu (some (c : Int))) (hc : c ≤ xs.size) (hz : xs.size + ys.size ≤ sizeLine) (q : Q () { s with heap := s.heap.update l (Obj.mapSeq fun zs => zs.extract 0 0 ++ ys ++ zs.extract c zs.size) }) : wpAny (model P w) A (setItem (.ref l) (.ref sl) (.ref b)) Q E s := by
  have Ll : s.heap.IsList l xs := PySem.IsL.isList el
  have Lb : s.heap.IsList b ys := PySem.IsL.isList eb
  obtain ⟨o, ho, hoc, hod⟩ := id hs
  have Ts : s.TypeIs (.ref sl) "slice" := ⟨o, ho, hoc⟩
  have nosame : Builtin.List.listSameRef (.ref l) (.ref b) = false := beq_eq_false_iff_ne.mpr ne
  have long : ((fun zs : Array Value => zs.extract 0 0 ++ ys ++ zs.extract c zs.size) xs).size ≤ sizeLine + 1 := by
    simp only [Array.size_append, Array.size_extract]; omega
  unfold setItem
  with_reducible refine wpAny_holding ?_
  refine wpAny_bind (wpAny_sequenceKey Ll.typeIs (by decide) ?_)
  refine (wpAny_bind (wpAny_callSpecial?_slot (name := Str.ofString "__setitem__") Ll.typeIs slot_list_setitem (wpAny_call_entry slot_list_setitem Ll.typeIs entry_list_setitem ?_ (args_list_setitem _ _ _))))
  show wpAny _ _ (Builtin.List.listSubscript? (.ref sl) >>= _) _ _ s
  refine wpAny_bind ?_
  unfold Builtin.List.listSubscript?
  refine wpAny_bind (wpAny_specialOf Ts slice_no_index ?_)
  simp only [Option.isNone_none, if_true]
  refine wpAny_pure ?_
  show wpAny _ _ (typeOf (.ref sl) >>= _) _ _ s
  refine wpAny_bind (wpAny_typeOf Ts ?_)
  first | rw [if_neg (by decide)] | refine PySem.W.KFB.if_not (by decide) ?_
  rw [listSliceParts_eq]
  refine wpAny_bind (wpAny_bind (wpAny_field ho hod (x := .none) rfl (wpAny_bind (wpAny_listPart .none ?_))))
  rw [if_neg (show ¬ ((rawPart none == rawInt 0) = true) from Bool.false_ne_true)]
  refine wpAny_bind (wpAny_field ho hod (x := .none) rfl (wpAny_bind (wpAny_listPart .none (wpAny_bind (wpAny_field ho hod (x := vu) rfl (wpAny_bind (wpAny_listPart pu (wpAny_pure ?_))))))))
  have short : Builtin.List.listTooLong (xs.size + ys.size) = false := notLongL hz
  rw [if_neg (by rw [nosame]; exact Bool.false_ne_true)]
  refine wpAny_bind (m := Builtin.List.listAllItems (.ref b) _) ?_
  unfold Builtin.List.listAllItems
  refine wpAny_bind (wpAny_typeOf Lb.typeIs ?_)
  rw [if_pos (by decide)]
  unfold Builtin.List.listItems
  refine wpAny_bind (wpAny_seqItems eb rfl (wpAny_pure ?_))
  refine wpAny_bind (wpAny_bind (wpAny_seqItems el rfl (wpAny_pure ?_)))
  have run : sliceIndices (rawPart Option.none) (rawPart (some (c : Int))) (rawPart Option.none) xs.size = (pure (0, (c : Int), 1) : Sem (Int × Int × Int)) := by
    rw [sliceIndices_raw _ _ _ _ (by simp), bounds_to hc]
  refine wpAny_bind (wpAny_of_eq run ?_)
  show wpAny _ _ (if ((1 : Int) == 1) = true then _ else _) _ _ s
  rw [if_pos (by decide)]
  refine wpAny_bind (wpAny_rule ?_)
  rw [if_neg (by rw [short]; exact Bool.false_ne_true)]
  show wpAny _ _ (updateSeq l (fun zs => zs.extract 0 (0 : Int).toNat ++ ys ++ zs.extract (max (0 : Int) (c : Int)).toNat zs.size) >>= _) _ _ s
  have top : (max (0 : Int) (c : Int)).toNat = c := by omega
  rw [top]
  refine wpAny_bind (wpAny_updateSeq (hz := Nat.le_trans (Nat.le_add_right _ _) hz) (_hz' := long) el rfl ?_)
  refine wpAny_bind (wpAny_letGo ?_)
  exact wpAny_pure ⟨.none, rfl, wpAny_pure q⟩
end
section
variable {X : Cx}
/-- xs[:c] = ys -/
theorem lay_to {pins : List (Addr × Obj)} {s : Shared} {σ : L2.St} {H : Hp} {l b sl : Addr} {xs ys : List V} {c : Nat} {vu : Value} {Q : Unit → Shared → Prop} (I : Inv X pins σ H s) (hl : H l = some (.lst xs)) (hb : H b = some (.lst ys)) (ne : l ≠ b)
    (hs : s.heap.IsSliceOf sl .none vu .none) (pu : IsPart vu (some (c : Int))) (hc : c ≤ xs.length) (hz : xs.length + ys.length ≤ sizeLine) (q : ∀ s', Inv X pins σ (upd H l (.lst (ys ++ xs.drop c))) s' → Q () s') : wpAny (model X.prog X.w) X.A (setItem (.ref l) (.ref sl) (.ref b)) Q X.xe s := by
  obtain ⟨z, us, n, r, k1, el⟩ := I.lstM hl
  obtain ⟨z2, us2, n2, r2, k2, eb⟩ := I.lstM hb
  refine store_to el eb ne hs pu (by rw [List.size_toArray]; omega) (by rw [List.size_toArray, List.size_toArray]; omega) (q _ ?_)
  refine I.lset (its' := us2 ++ us.drop c) (t' := s.toks) hl el ?_ (Vals.append r2 (r.drop _)) ?_
  · have := splice_eq us us2 0 c
    rw [List.take_zero, List.nil_append] at this
    exact this
  · rw [List.length_append, List.length_drop]
    omega
/-- told[:c] = value, as a statement -/
def gTo (K : PySem.W.Frag) (to : TE) (th : TO) : TG := fun v σ H Q => to σ H fun o H1 => th σ H1 fun hi H2 => ∃ (l b : Addr) (xs ys : List V) (c : Nat), o = .ref l ∧ v = .ref b ∧ hi = some (c : Int) ∧ H2 l = some (.lst xs) ∧ H2 b = some (.lst ys) ∧ l ≠ b ∧ c ≤ xs.length ∧ xs.length + ys.length ≤ sizeLine ∧ Q σ (upd H2 l (.lst (ys ++ xs.drop c)))
theorem pg_to {o hi : Expr} {to : TE} {th : TO} {p2 pos : Pos} (ho : PE X o to) (hh : PO X (some hi) th) : PG X (.Subscript o (.Slice Option.none (some hi) Option.none p2) pos) (gTo X.K to th) := by
  refine ⟨fun pins s σ H v u Q I r h => ?_⟩
  show wpAny _ _ (do
      let ov ← holding [u] (eval o X.env)
      let iv ← holding [u, ov] (eval (.Slice Option.none (some hi) Option.none p2) X.env)
      standAt pos
      holding [u, ov, iv] (setItem ov iv u)
      release [iv, u, ov] []) _ _ _
  refine wpAny_bind (wpAny_holding (thn (ho.run pins s σ H _ I h) fun ov s1 ⟨x, H1, I1, r1, q1⟩ => ?_))
  refine wpAny_bind (wpAny_holding ?_)
  refine wpAny_Slice ?_
  rw [evalPart_none]
  refine wpAny_pure (thn (hh.run pins s1 σ H1 _ I1 q1) fun vu s2 ⟨top, H2, I2, pu, q2⟩ => ?_)
  refine wpAny_pure ?_
  obtain ⟨l, b, xs, ys, c, e1, e2, e3, h1, h2, ne, hc, hz, q⟩ := q2
  subst e1
  subst e2
  subst e3
  cases (show ov = Value.ref l from r1)
  cases (show u = Value.ref b from r)
  have I3 : Inv X pins σ H2 { s2 with heap := s2.heap.push { cls := .type "slice", data := .fields #[.none, vu, .none] } } := I2.kept (t' := s2.toks) fun _ _ k => Heap.get?_push_of_some _ k
  refine wpAny_bind (wpAny_standAt (wpAny_bind (wpAny_holding (lay_to I3 h1 h2 ne (Heap.IsSliceOf.new ..) pu hc hz fun s' I4 => wpAny_release ⟨σ, _, I4, q⟩))))
theorem a_to {K : PySem.W.Frag} {to : TE} {th : TO} {v : V} {σ : L2.St} {H : Hp} {Q : L2.St → Hp → Prop} : gTo K to th v σ H Q = to σ H fun o H1 => th σ H1 fun hi H2 => ∃ (l b : Addr) (xs ys : List V) (c : Nat), o = .ref l ∧ v = .ref b ∧ hi = some (c : Int) ∧ H2 l = some (.lst xs) ∧ H2 b = some (.lst ys) ∧ l ≠ b ∧ c ≤ xs.length ∧ xs.length + ys.length ≤ sizeLine ∧ Q σ (upd H2 l (.lst (ys ++ xs.drop c))) := rfl
end
end Mi

/-! repr of lists of numbers -/
namespace Mi
open PySem PySem.Spec PyProof.Rows L2 TL
def dints (l : List Nat) : PyData := .list (l.map fun (d : Nat) => PyData.int (d : Int))
section
variable {K : PySem.W.Frag} {H : Hp} {Q : VK}
theorem dp_all : ∀ l : List Nat, DpAll K H (nints l) (l.map fun (d : Nat) => PyData.int (d : Int))
  | [] => .nil
  | d :: l => .cons (.int d) (dp_all l)
theorem dp_nints {a : Addr} {l : List Nat} (h : SqL K H a (nints l)) : Dp K H (.ref a) (dints l) := .lst h (dp_all l)
theorem ints_show : ∀ l : List Nat, (∀ d ∈ l, d < lim) → PyData.showableAll (l.map fun (d : Nat) => PyData.int (d : Int)) = true ∧ PyData.hasDictAll (l.map fun (d : Nat) => PyData.int (d : Int)) = false ∧ PyData.depthAll (l.map fun (d : Nat) => PyData.int (d : Int)) = 0 ∧
    PyData.leavesShortAll 800 (l.map fun (d : Nat) => PyData.int (d : Int)) = true ∧ PyData.bulkAll (l.map fun (d : Nat) => PyData.int (d : Int)) = l.length
  | [], _ => ⟨rfl, rfl, rfl, rfl, rfl⟩
  | d :: l, h => by
    obtain ⟨h1, h2, h3, h4, h5⟩ := ints_show l fun x hx => h x (List.mem_cons_of_mem _ hx)
    have hd' : d < 10 ^ 200 := h d List.mem_cons_self
    have hd : d.log2 < 700 := by
      have hd : d < lim := h d List.mem_cons_self
      by_cases c : d = 0
      · subst c
        decide
      · exact (Nat.log2_lt c).mpr (Nat.lt_trans hd lim_pow)
    have hs : (PyData.shown (.int d)).length ≤ 800 := by
      unfold PyData.shown
      rw [len_tl, tl_num]
      exact Nat.le_trans (numL_len (k := 200) (by decide) hd') (by decide)
    refine ⟨?_, ?_, ?_, ?_, ?_⟩
    · show (decide (((d : Int)).natAbs.log2 < 1920) && _) = true
      rw [h1, decide_eq_true (show ((d : Int)).natAbs.log2 < 1920 by rw [Int.natAbs_natCast]; omega)]
      rfl
    · show (false || _) = false
      rw [h2]
      rfl
    · show max 0 _ = 0
      rw [h3]
      rfl
    · show (decide _ && _) = true
      rw [h4, decide_eq_true hs]
      rfl
    · show 0 + 1 + _ = l.length + 1
      rw [h5]
      omega
theorem b_repr {xs : List V} : rRepr K xs H Q = ∃ (a : Addr) (d : PyData), xs = [.ref a] ∧ Dp K H (.ref a) d ∧ d.showable = true ∧ d.hasDict = false ∧ d.depth ≤ 64 ∧ d.shown.length ≤ sizeLine ∧ Q (.str d.shown) H := rfl
theorem repr_ints {a : Addr} {l : List Nat} (h : SqL K H a (nints l)) (hb : ∀ d ∈ l, d < lim) (hl : l.length ≤ 10000) (q : Q (.str (dints l).shown) H) : rRepr K [.ref a] H Q := by
  obtain ⟨h1, h2, h3, h4, h5⟩ := ints_show l hb
  refine ⟨a, dints l, rfl, dp_nints h, h1, h2, ?_, ?_, q⟩
  · show PyData.depthAll _ + 1 ≤ 64
    rw [h3]
    decide
  · refine Nat.le_trans (PyData.shown_le_bulk 800 (by decide) (dints l) h4) ?_
    show 802 * PyData.bulkAll _ + 800 ≤ _
    rw [h5, sizeLine_eq]
    omega
end
end Mi

namespace Mi
open PySem PySem.Spec PyProof.Rows L2
section
variable {K : PySem.W.Frag} {C : Str → Addr} {H B : Hp} {Q : VK} {E : XK} {F G : List (Addr × HO)} {D : Ends} {σ : L2.St} {tb : TS}
theorem Led.perm (L : Led B F H) (h : F.Perm G) : Led B G H :=
  ⟨L.base, fun x hx => L.own x (h.mem_iff.mpr hx), (h.map Prod.fst).nodup_iff.mp L.nd⟩
/-- for k, cell in the cells, the turns told -/
theorem for_cellsI {Bs : Hp} {P : Addr} {as : List Addr} {cs : List Int} {H1 : Hp} {j k : Nat} (hl : as.length = cs.length) (hc : cs.length ≤ 64) (L : ∀ x ∈ (P, HO.lst (as.map V.ref)) :: enF as (cs.map V.int), Bs x.1 = some x.2)
    (Pv : Nat → L2.St → Hp → Prop) (h0 : Pv 0 σ H1) (hB : ∀ i σ H, Pv i σ H → Led Bs [] H)
    (hs : ∀ N : Nat → L2.St → Hp → Prop, (∀ i σ H, Pv i σ H → N i σ H) → ∀ (i : Nat) (c : Int) σ H, i < 64 → Pv i σ H → tb { D with nx := N (i + 1), ct := N (i + 1), bk := D.nx } ((σ.set j (some (.int (i : Nat)))).set k (some (.int c))) H)
    (hd : ∀ i σ H, i ≤ 64 → Pv i σ H → D.nx σ H) : ForG (Itl K P) (g2 K j k) tb D σ H1 := by
  have hP : Bs P = some (.lst (as.map V.ref)) := L _ List.mem_cons_self
  have hT : ∀ (i : Nat) b x y, as[i]? = some b → ((List.range as.length).map fun j => V.int (j : Nat))[i]? = some x → (cs.map V.int)[i]? = some y → Bs b = some (.tup [x, y]) := by
    intro i b x y h1 h2 h3
    have hi := lt_of_get h1
    rw [List.getElem?_map, List.getElem?_range hi] at h2
    cases h2
    exact L _ (List.mem_cons_of_mem _ (enF_get (by rw [List.length_map]; exact hl) h1 h3))
  refine for_lp (as := as) (xs := (List.range as.length).map fun j => V.int (j : Nat)) (ys := cs.map V.int) (by simp) (by simp [hl]) (fun i σ H2 => Pv i σ H2) h0 ?_ ?_ fun σ H p => hd _ σ H (by omega) p
  · intro i σ H2 p
    have L2 := hB i σ H2 p
    exact ⟨SqL.of (L2.base _ _ hP), fun i b x y h1 h2 h3 => SqT.of (L2.base _ _ (hT i b x y h1 h2 h3))⟩
  · intro N hN i x y σ H2 hx hy p
    obtain ⟨c, hc, rfl⟩ : ∃ c : Int, cs[i]? = some c ∧ y = .int c := by
      rw [List.getElem?_map] at hy
      cases e : cs[i]? with
      | none => rw [e] at hy; cases hy
      | some c => rw [e] at hy; cases hy; exact ⟨c, rfl, rfl⟩
    have hi : i < as.length := by
      have := lt_of_get hx
      rw [List.length_map, List.length_range] at this
      exact this
    rw [List.getElem?_map, List.getElem?_range hi] at hx
    cases hx
    exact hs N hN i c σ H2 (by omega) p
/-- lists held by twos: the pair, both lists, what both hold -/
structure Hold where
  r : Addr
  x : Addr
  y : Addr
  l : List Nat
def hoF (hs : List Hold) : List (Addr × HO) := hs.flatMap fun t => [(t.r, .lst [.ref t.x, .ref t.y]), (t.x, .lst (nints t.l)), (t.y, .lst (nints t.l))]
def hoV (hs : List Hold) : List V := hs.map fun t => V.ref t.r
theorem hoV_len (hs : List Hold) : (hoV hs).length = hs.length := by simp [hoV]
theorem hoF_mem {hs : List Hold} {t : Hold} (h : t ∈ hs) : (t.r, HO.lst [.ref t.x, .ref t.y]) ∈ hoF hs ∧ (t.x, HO.lst (nints t.l)) ∈ hoF hs ∧ (t.y, HO.lst (nints t.l)) ∈ hoF hs := by
  unfold hoF
  refine ⟨List.mem_flatMap.mpr ⟨t, h, by simp⟩, List.mem_flatMap.mpr ⟨t, h, by simp⟩, List.mem_flatMap.mpr ⟨t, h, by simp⟩⟩
theorem hoF_snoc (hs : List Hold) (t : Hold) : hoF (hs ++ [t]) = hoF hs ++ [(t.r, .lst [.ref t.x, .ref t.y]), (t.x, .lst (nints t.l)), (t.y, .lst (nints t.l))] := by
  unfold hoF
  rw [List.flatMap_append]
  simp
end
end Mi

/-! the few -/
namespace Mi
variable {b : Nat}
/-- a figure, noughts, the figure -/
theorem mir_ends (hb : 2 ≤ b) {d s : Nat} (hd : 0 < d) (hd2 : d < b) (hs : 1 ≤ s) : mir b (d * b ^ s + d) = true := by
  have h := figs_val hb (d :: (List.replicate (s - 1) 0 ++ [d])) (by simp) (fun x hx => by
    rcases List.mem_cons.mp hx with e | e
    · omega
    · rcases List.mem_append.mp e with e | e
      · rw [(List.mem_replicate.mp e).2]
        omega
      · rw [List.mem_singleton.mp e]
        exact hd2) (Or.inr fun x hx => by
    cases hx
    exact hd)
  rw [val_cons, val_append, val_rep0, val_one, List.length_append, List.length_replicate] at h
  have e : s - 1 + [d].length = s := by
    show s - 1 + 1 = s
    omega
  rw [e] at h
  unfold mir
  rw [show d * b ^ s + d = d * b ^ s + (0 * b ^ [d].length + d) by omega, h]
  apply decide_eq_true
  simp
theorem low_half (hb : 2 ≤ b) {n : Nat} : n ≤ 2 * lowM b n := by
  by_cases h0 : n = 0
  · omega
  by_cases h1 : n < b
  · rw [low_self hb (mir_small hb h1)]
    omega
  -- two figures at least
  have hl2 : 2 ≤ ln b n := by
    apply Nat.lt_of_not_le
    intro h
    have h2 := ln_high (n := n) hb
    have h3 : b ^ ln b n ≤ b ^ 1 := Nat.pow_le_pow_right (by omega) h
    rw [Nat.pow_one] at h3
    omega
  have hlow := ln_low (n := n) hb (by omega)
  have hhigh := ln_high (n := n) hb
  obtain ⟨s, es⟩ : ∃ s, ln b n = s + 1 := ⟨ln b n - 1, by omega⟩
  rw [es] at hlow hhigh
  rw [show s + 1 - 1 = s by omega] at hlow
  rw [Nat.pow_succ] at hhigh
  have hp : 0 < b ^ s := Nat.pow_pos (by omega)
  obtain ⟨d, ed⟩ : ∃ d, n / b ^ s = d := ⟨_, rfl⟩
  have hd1 : d * b ^ s ≤ n := by rw [← ed]; exact Nat.div_mul_le_self _ _
  have hd2 : n < (d + 1) * b ^ s := by rw [← ed]; exact Nat.lt_mul_of_div_lt (Nat.lt_succ_self _) hp
  have hd3 : d < b := by rw [← ed]; exact Nat.div_lt_of_lt_mul hhigh
  have hd0 : 0 < d := by rw [← ed]; exact Nat.div_pos hlow hp
  rw [Nat.succ_mul] at hd2
  have hbs : b ≤ b ^ s := by
    have : b ^ 1 ≤ b ^ s := Nat.pow_le_pow_right (by omega) (by omega)
    rwa [Nat.pow_one] at this
  by_cases c : d * b ^ s + d ≤ n
  · have h5 := low_max hb (mir_ends hb hd0 hd3 (show 1 ≤ s by omega)) c
    have h6 : b ^ s ≤ d * b ^ s := Nat.le_mul_of_pos_left _ hd0
    omega
  · by_cases c1 : d = 1
    · subst c1
      have h5 := low_max (n := n) hb (mir_top (b := b) (s := s) hb (by omega)).1 (by omega)
      omega
    · have h5 := low_max (n := n) hb (mir_ends hb (show 0 < d - 1 by omega) (by omega) (show 1 ≤ s by omega)) (by
        rw [Nat.sub_mul]
        omega)
      have h6 : 2 * b ^ s ≤ d * b ^ s := Nat.mul_le_mul_right _ (by omega)
      rw [Nat.sub_mul] at h5
      omega
/-- the greatest at most it, and so on -/
def fews (b n : Nat) : List Nat := if h : 0 < n ∧ 0 < lowM b n then lowM b n :: fews b (n - lowM b n) else []
termination_by n
decreasing_by omega
theorem fews_zero : fews b 0 = [] := by
  unfold fews
  rw [dif_neg (by omega)]
theorem fews_pos (hb : 2 ≤ b) {n : Nat} (hn : 0 < n) : fews b n = lowM b n :: fews b (n - lowM b n) := by
  conv => lhs; unfold fews
  rw [dif_pos ⟨hn, low_pos hb hn⟩]
theorem fews_ind (hb : 2 ≤ b) {P : Nat → Prop} (h0 : P 0) (hs : ∀ n, 0 < n → P (n - lowM b n) → P n) (n : Nat) : P n := by
  induction n using Nat.strongRecOn with
  | ind n ih =>
    by_cases h : n = 0
    · exact h ▸ h0
    · have := low_pos (n := n) hb (by omega)
      exact hs n (by omega) (ih _ (by omega))
theorem fews_sum (hb : 2 ≤ b) (n : Nat) : (fews b n).sum = n := by
  refine fews_ind hb (P := fun n => (fews b n).sum = n) (by rw [fews_zero]; rfl) (fun n hn ih => ?_) n
  rw [fews_pos hb hn, List.sum_cons, ih]
  have := low_le (n := n) hb
  omega
theorem fews_mir (hb : 2 ≤ b) (n : Nat) : ∀ m ∈ fews b n, mir b m = true ∧ 0 < m ∧ m ≤ n := by
  refine fews_ind hb (P := fun n => ∀ m ∈ fews b n, mir b m = true ∧ 0 < m ∧ m ≤ n) (by rw [fews_zero]; intro m hm; cases hm) (fun n hn ih => ?_) n
  rw [fews_pos hb hn]
  intro m hm
  rcases List.mem_cons.mp hm with e | e
  · subst e
    exact ⟨low_mir hb, low_pos hb hn, low_le hb⟩
  · obtain ⟨h1, h2, h3⟩ := ih m e
    exact ⟨h1, h2, by omega⟩
theorem fews_len (hb : 2 ≤ b) : ∀ (k n : Nat), n < 2 ^ k → (fews b n).length ≤ k := by
  intro k
  induction k with
  | zero =>
    intro n h
    have : n = 0 := by simpa using h
    subst this
    rw [fews_zero]
    exact Nat.le_refl _
  | succ k ih =>
    intro n h
    by_cases h0 : n = 0
    · subst h0
      rw [fews_zero]
      exact Nat.zero_le _
    · rw [fews_pos hb (by omega), List.length_cons]
      have h2 := low_half (n := n) hb
      rw [Nat.pow_succ] at h
      exact Nat.succ_le_succ (ih _ (by omega))
theorem fews_lim (hb : 2 ≤ b) {n : Nat} (h : n < lim) : (fews b n).length ≤ 700 := fews_len hb 700 n (Nat.lt_trans h lim_pow)
theorem fews_self (hb : 2 ≤ b) {n : Nat} (hn : 0 < n) (h : mir b n = true) : fews b n = [n] := by
  rw [fews_pos hb hn, low_self hb h, Nat.sub_self, fews_zero]
theorem fews_one (hb : 2 ≤ b) {n : Nat} (hn : 0 < n) : (fews b n).length = 1 ↔ mir b n = true := by
  constructor
  · intro h
    rw [fews_pos hb hn, List.length_cons] at h
    have h2 := low_le (n := n) hb
    by_cases c : n - lowM b n = 0
    · have e : lowM b n = n := by omega
      rw [← e]
      exact low_mir hb
    · rw [fews_pos hb (by omega), List.length_cons] at h
      omega
  · intro h
    rw [fews_self hb hn h]
    rfl
/-- none greater than the one ahead -/
theorem fews_fall (hb : 2 ≤ b) (n : Nat) : ∀ i x y, (fews b n)[i]? = some x → (fews b n)[i + 1]? = some y → y ≤ x := by
  refine fews_ind hb (P := fun n => ∀ i x y, (fews b n)[i]? = some x → (fews b n)[i + 1]? = some y → y ≤ x) (by rw [fews_zero]; intro i x y h; cases h) (fun n hn ih => ?_) n
  rw [fews_pos hb hn]
  intro i x y h1 h2
  cases i with
  | zero =>
    rw [List.getElem?_cons_zero] at h1
    cases h1
    rw [List.getElem?_cons_succ] at h2
    have h3 := (fews_mir hb _ y (List.mem_of_getElem? h2)).2.2
    have := low_half (n := n) hb
    omega
  | succ i =>
    rw [List.getElem?_cons_succ] at h1 h2
    exact ih i x y h1 h2
end Mi

/-! few -/
namespace Mi
open PySem PySem.Spec PyProof.Rows L2
def sp_a_few (K : PySem.W.Frag) (C : Str → Addr) : Sp := fun vs H Q E => ∃ y x : V, vs = [y, x] ∧ NB K C H E x fun b => ∃ n : Nat, y = .int n ∧ n < lim1 ∧ ∀ p H', Led H [(p, .lst (nints (fews b n)))] H' → Q (.ref p) H'
section
variable {K : PySem.W.Frag} {C : Str → Addr} {H B : Hp} {Q : VK} {E : XK} {F : List (Addr × HO)} {n b : Nat}
theorem use_few (L : Led B F H) (hb : 2 ≤ b) (hb2 : b ≤ 36) (hn : n < lim1) (q : ∀ p H', Led B ((p, .lst (nints (fews b n))) :: F) H' → Q (.ref p) H') : sp_a_few K C [.int n, .int b] H Q E :=
  ⟨_, _, rfl, NB.good hb hb2 ⟨n, rfl, hn, fun p H' M => q p H' (L.step M)⟩⟩
end
end Mi

/-! falling filters, the ways by two -/
namespace Mi
section
variable {p : Nat → Bool}
/-- what holds p above t and below n, falling -/
def fl (p : Nat → Bool) (n t : Nat) : List Nat := ((List.range n).reverse).filter fun m => p m && decide (t < m)
theorem fl_zero {t : Nat} : fl p 0 t = [] := rfl
theorem fl_succ {n t : Nat} : fl p (n + 1) t = (if p n && decide (t < n) then [n] else []) ++ fl p n t := by
  unfold fl
  rw [List.range_succ, List.reverse_append, List.reverse_singleton, List.filter_append]
  congr 1
  by_cases c : (p n && decide (t < n)) = true
  · rw [if_pos c]
    simp only [List.filter_cons, List.filter_nil]
    rw [if_pos c]
  · rw [if_neg c]
    simp only [List.filter_cons, List.filter_nil]
    rw [if_neg c]
theorem fl_mem {n t m : Nat} : m ∈ fl p n t ↔ m < n ∧ p m = true ∧ t < m := by
  unfold fl
  rw [List.mem_filter, List.mem_reverse, List.mem_range, Bool.and_eq_true, decide_eq_true_eq]
theorem fl_none : ∀ {n t : Nat}, n ≤ t + 1 → fl p n t = []
  | 0, _, _ => rfl
  | n + 1, t, h => by
    rw [fl_succ, fl_none (by omega), if_neg (by
      intro z
      rw [Bool.and_eq_true, decide_eq_true_eq] at z
      omega)]
    rfl
theorem fl_step {t' t : Nat} (h : t' < t) (hno : ∀ m, t' < m → m < t → p m = false) : ∀ n, fl p n t' = fl p n t ++ if t < n ∧ p t = true then [t] else []
  | 0 => by rw [fl_zero, fl_zero, if_neg (by omega)]; rfl
  | n + 1 => by
    rw [fl_succ, fl_succ, fl_step h hno n]
    rcases Nat.lt_trichotomy n t with c | c | c
    · have e1 : ¬ ((p n && decide (t' < n)) = true) := by
        intro z
        rw [Bool.and_eq_true, decide_eq_true_eq] at z
        rw [hno n z.2 c] at z
        cases z.1
      have e2 : ¬ ((p n && decide (t < n)) = true) := by
        intro z
        rw [Bool.and_eq_true, decide_eq_true_eq] at z
        omega
      rw [if_neg e1, if_neg e2, if_neg (show ¬ (t < n ∧ p t = true) by omega), if_neg (show ¬ (t < n + 1 ∧ p t = true) by omega)]
      simp
    · subst c
      have e2 : ¬ ((p n && decide (n < n)) = true) := by
        intro z
        rw [Bool.and_eq_true, decide_eq_true_eq] at z
        omega
      rw [if_neg e2, fl_none (show n ≤ n + 1 by omega), if_neg (show ¬ (n < n ∧ p n = true) by omega)]
      by_cases c2 : p n = true
      · rw [if_pos (by rw [c2, Bool.true_and]; exact decide_eq_true h), if_pos ⟨by omega, c2⟩]
        rfl
      · rw [if_neg (by
          intro z
          rw [Bool.and_eq_true] at z
          exact c2 z.1), if_neg (fun z => c2 z.2)]
        rfl
    · have e : (p n && decide (t' < n)) = (p n && decide (t < n)) := by
        rw [decide_eq_true (show t' < n by omega), decide_eq_true c]
      rw [e, List.append_assoc]
      congr 2
      by_cases c2 : p t = true
      · rw [if_pos ⟨c, c2⟩, if_pos ⟨by omega, c2⟩]
      · rw [if_neg (fun z => c2 z.2), if_neg (fun z => c2 z.2)]
theorem fl_pre {t' t : Nat} (h : t' ≤ t) : ∀ n, ∃ r, fl p n t' = fl p n t ++ r
  | 0 => ⟨[], rfl⟩
  | n + 1 => by
    obtain ⟨r, e⟩ := fl_pre h n
    by_cases c : t < n
    · refine ⟨r, ?_⟩
      rw [fl_succ, fl_succ, e, decide_eq_true c, decide_eq_true (show t' < n by omega), List.append_assoc]
    · refine ⟨(if p n && decide (t' < n) then [n] else []) ++ r, ?_⟩
      have e0 : fl p (n + 1) t = [] := fl_none (by omega)
      have e1 : fl p n t = [] := fl_none (by omega)
      rw [fl_succ, e, e0, e1]
      rfl
theorem fl_len : ∀ n t, (fl p n t).length ≤ n
  | 0, _ => Nat.le_refl _
  | n + 1, t => by
    rw [fl_succ, List.length_append]
    have := fl_len n t
    split <;> simp <;> omega
/-- rising from behind -/
theorem fl_fall {n t : Nat} : (fl p n t).Pairwise (fun a b => b < a) := by
  unfold fl
  apply List.Pairwise.filter
  rw [List.pairwise_reverse]
  exact List.pairwise_lt_range
end
section
variable {b : Nat}
def pT (b n m : Nat) : Bool := decide (0 < m) && decide (n ≤ 2 * m) && mir b m && mir b (n - m)
/-- the first parts of the ways by two, falling -/
def twos (b n : Nat) : List Nat := fl (pT b n) n 0
theorem pT_iff {n m : Nat} : pT b n m = true ↔ 0 < m ∧ n ≤ 2 * m ∧ mir b m = true ∧ mir b (n - m) = true := by
  unfold pT
  simp only [Bool.and_eq_true, decide_eq_true_eq, and_assoc]
theorem twos_mem {n m : Nat} : m ∈ twos b n ↔ m < n ∧ 0 < m ∧ n ≤ 2 * m ∧ mir b m = true ∧ mir b (n - m) = true := by
  unfold twos
  rw [fl_mem, pT_iff]
  constructor
  · rintro ⟨h1, h2, _⟩
    exact ⟨h1, h2⟩
  · rintro ⟨h1, h2⟩
    exact ⟨h1, h2, h2.1⟩
/-- the loop's turn -/
theorem twos_turn (hb : 2 ≤ b) {n one : Nat} (h1 : n ≤ 2 * one) (h0 : 0 < one) (hn : one < n) (hm : mir b one = true) : fl (pT b n) n (lowM b (one - 1)) = fl (pT b n) n one ++ if mir b (n - one) = true then [one] else [] := by
  have hl := low_le (n := one - 1) hb
  rw [fl_step (t := one) (by omega) (fun m h2 h3 => ?_) n]
  · congr 1
    by_cases c : mir b (n - one) = true
    · rw [if_pos ⟨hn, pT_iff.mpr ⟨h0, h1, hm, c⟩⟩, if_pos c]
    · rw [if_neg (fun z => c (pT_iff.mp z.2).2.2.2), if_neg c]
  · cases e : pT b n m with
    | false => rfl
    | true =>
      have := low_max hb (pT_iff.mp e).2.2.1 (show m ≤ one - 1 by omega)
      omega
/-- where the loop ends by itself -/
theorem twos_end {n one : Nat} (h : 2 * one < n ∨ one = 0) : fl (pT b n) n one = twos b n := by
  unfold twos
  unfold fl
  apply List.filter_congr
  intro m _
  cases e : pT b n m with
  | false => rfl
  | true =>
    have := pT_iff.mp e
    rw [Bool.true_and, Bool.true_and]
    exact decide_eq_decide.mpr ⟨fun _ => this.1, fun _ => by omega⟩
/-- where it starts -/
theorem twos_start (hb : 2 ≤ b) {n : Nat} : fl (pT b n) n (lowM b (n - 1)) = [] := by
  apply List.eq_nil_iff_forall_not_mem.mpr
  intro m hm
  obtain ⟨h1, h2, h3⟩ := fl_mem.mp hm
  have := low_max hb (pT_iff.mp h2).2.2.1 (show m ≤ n - 1 by omega)
  omega
theorem twos_len {n : Nat} : (twos b n).length ≤ n := fl_len n 0
end
end Mi

/-! ways by two -/
namespace Mi
open PySem PySem.Spec PyProof.Rows L2
/-- pairs that were laid: at as, of the first parts ms of n -/
def prF (as : List Addr) (ms : List Nat) (n : Nat) : List (Addr × HO) := (as.zip ms).map fun x => (x.1, .lst [.int (x.2 : Nat), .int ((n - x.2 : Nat) : Int)])
def sp_some_by_two (K : PySem.W.Frag) (C : Str → Addr) : Sp := fun vs H Q E => ∃ n b k : Nat, vs = [.int n, .int b, .int k] ∧ 2 ≤ b ∧ b ≤ 36 ∧ n ≤ 10000000 ∧
  ∀ p as H', as.length = ((twos b n).take k).length → Led H ((p, .lst (as.map V.ref)) :: prF as ((twos b n).take k) n) H' → Q (.ref p) H'
def sp_by_two (K : PySem.W.Frag) (C : Str → Addr) : Sp := fun vs H Q E => ∃ y x : V, vs = [y, x] ∧ NB K C H E x fun b => ∃ n : Nat, y = .int n ∧ n ≤ 10000000 ∧
  ∀ p as H', as.length = (twos b n).length → Led H ((p, .lst (as.map V.ref)) :: prF as (twos b n) n) H' → Q (.ref p) H'
def sp_many_by_two (K : PySem.W.Frag) (C : Str → Addr) : Sp := fun vs H Q E => ∃ y x : V, vs = [y, x] ∧ NB K C H E x fun b => ∃ n : Nat, y = .int n ∧ n ≤ 10000000 ∧ ∀ H', Led H [] H' → Q (.int ((twos b n).length : Nat)) H'
def sp_first_by_two (K : PySem.W.Frag) (C : Str → Addr) : Sp := fun vs H Q E => ∃ y x : V, vs = [y, x] ∧ NB K C H E x fun b => ∃ n : Nat, y = .int n ∧ n ≤ 10000000 ∧ (twos b n = [] → ∀ H', Led H [] H' → Q .non H') ∧
  ∀ m r, twos b n = m :: r → ∀ p H', Led H [(p, .lst [.int (m : Nat), .int ((n - m : Nat) : Int)])] H' → Q (.ref p) H'
theorem prF_snoc {as : List Addr} {ms : List Nat} {n : Nat} {a : Addr} {m : Nat} (h : as.length = ms.length) : prF (as ++ [a]) (ms ++ [m]) n = prF as ms n ++ [(a, .lst [.int (m : Nat), .int ((n - m : Nat) : Int)])] := by
  unfold prF
  rw [List.zip_append h, List.map_append]
  rfl
end Mi

/-! a list in a list of lists -/
namespace Mi
open PySem PySem.Spec PyProof.Rows L2
theorem hu65 {k : Nat} {A : Around} (hr : Rm k A) : A.units + 65 < cLine := by
  have := hr.rm.un
  have e : cLine = cLine := rfl
  omega
theorem b_inD {K : PySem.W.Frag} {x y : V} {H : Hp} {Q : VK} : rInD K x y H Q = ∃ d ds, Dp K H x d ∧ Dp K H y (.list ds) ∧ SeqAt.shaped d = true ∧ SeqAt.shaped (.list ds) = true ∧ Q (.bl (ds.any fun z => PyData.eqv z d)) H := rfl
end Mi

/-! how often a thing stands in a list, things of any depth -/
namespace Mi
open PySem PySem.Spec PyProof.Rows L2
def rCountD (K : PySem.W.Frag) : V → List V → Hp → VK → Prop := fun x xs H Q => ∃ (a : Addr) (y : V) (d : PyData) (ds : List PyData), x = V.ref a ∧ xs = [y] ∧ Dp K H (V.ref a) (.list ds) ∧ Dp K H y d ∧
  SeqAt.shaped (.list ds) = true ∧ SeqAt.shaped d = true ∧ Q (.int ((ds.countP fun z => PyData.eqv z d) : Nat)) H
theorem mt_countD {X : Cx} (hu : X.A.units + 65 < cLine) : MtR X "list.count" (rCountD X.K) := by
  intro pins s σ H x xs v us Q I rx rxs h
  obtain ⟨a, y, d, ds, rfl, rfl, hl, hy, sl, sd, q⟩ := h
  cases rx
  cases rxs with
  | cons ry rt =>
    rename_i uy ut
    cases rt
    obtain ⟨bs, r1⟩ := Dp.reads I d y uy hy ry
    have hxs : PyData.canLayAll0 ds = true := SeqAt.canLay_of_shaped sl
    have hroom : X.A.units + 1 + min (PyData.depthAll ds) d.depth < cLine := room_in_shaped sd hu
    cases hl with
    | lst hs ha =>
      obtain ⟨its, rv, ⟨⟨cls, dd, data, sls⟩, n, ho, hc, hdn, hdt⟩, hlen⟩ := I.list hs
      simp only at hc hdt
      subst hc hdt
      obtain ⟨as, h4⟩ := Dp.readsAll I ds _ its ha rv
      have hmap : its.map (SeqAt.readOf s.heap) = ds := SeqAt.readsAll_map ds its as hxs h4
      refine call_meets PySem.F.slot_list_count ⟨_, ho, rfl⟩ PySem.F.entry_list_count (PySem.F.args_list_count_2 _ _)
        (SeqAt.list_countAt a its.toArray n dd sls uy (fun u => PyData.eqv (SeqAt.readOf s.heap u) d)) ⟨ho, SeqAt.items_eqAt (vs := its.toArray) (show ReadsAll s.heap its.toArray.toList ds as from h4) r1 hxs (SeqAt.canLay_of_shaped sd) hroom, ?_⟩
      refine ⟨.int ((ds.countP fun z => PyData.eqv z d) : Nat), H, I.tok _, ⟨s.toks, ?_⟩, q⟩
      show Value.int ((its.toArray.toList.countP (fun u => PyData.eqv (SeqAt.readOf s.heap u) d) : Nat) : Int) s.toks = Value.int ((ds.countP fun z => PyData.eqv z d : Nat) : Int) s.toks
      have e : its.toArray.toList.countP (fun u => PyData.eqv (SeqAt.readOf s.heap u) d) = ds.countP fun z => PyData.eqv z d := by
        rw [← hmap, List.countP_map]
        rfl
      rw [e]
theorem b_countD {K : PySem.W.Frag} {x : V} {xs : List V} {H : Hp} {Q : VK} : rCountD K x xs H Q = ∃ (a : Addr) (y : V) (d : PyData) (ds : List PyData), x = V.ref a ∧ xs = [y] ∧ Dp K H (V.ref a) (.list ds) ∧ Dp K H y d ∧
  SeqAt.shaped (.list ds) = true ∧ SeqAt.shaped d = true ∧ Q (.int ((ds.countP fun z => PyData.eqv z d) : Nat)) H := rfl
end Mi

/-! some drawn mirrored ones; pairs laid -/
namespace Mi
open PySem PySem.Spec PyProof.Rows L2
theorem good_facts {b s : Nat} (hb : 2 ≤ b) {l : List Nat} (good : Good b l) (hpos : ∀ x, l.head? = some x → 0 < x) (hl : l.length ≤ s) (hrev : l.reverse = l) : mir b (val b l) = true ∧ 0 < val b l ∧ val b l < b ^ s := by
  refine ⟨?_, ?_, ?_⟩
  · unfold mir
    rw [figs_val hb l good.ne good.bd good.hd, hrev]
    exact decide_eq_true rfl
  · cases l with
    | nil => exact absurd rfl good.ne
    | cons x l =>
      rw [val_cons]
      have h1 := hpos x rfl
      have h2 : 0 < x * b ^ l.length := Nat.mul_pos h1 (Nat.pow_pos (by omega))
      omega
  · exact Nat.lt_of_lt_of_le (val_lt (by omega) l good.bd) (Nat.pow_le_pow_right (by omega) hl)
section
variable {K : PySem.W.Frag} {C : Str → Addr} {H B : Hp} {Q : VK} {E : XK} {F G : List (Addr × HO)} {D : Ends} {σ : L2.St} {tb : TS} {a : Addr} {d m : Nat}
theorem set_same {F : List (Addr × HO)} {i : Nat} {x : Addr × HO} (h : F[i]? = some x) : F.set i x = F := by
  apply List.ext_getElem?
  intro k
  by_cases hk : i = k
  · subst hk
    rw [List.getElem?_set_self (lt_of_get h), h]
  · rw [List.getElem?_set_ne hk]
/-- [_law_mirrored(hand, base, 1 + _law_draw(hand, S)) for j in range(n)] -/
theorem lc_both {h w j n b sz : Nat} {teS : TE} {P : Addr} {Qd : Hp → Prop} (L : Led B F H) (hP : H P = none) (i : Nat) (hF : F[i]? = some (a, .lst [.int d, .int m])) (hm : m < 2147483587) (hb : 2 ≤ b) (hb2 : b ≤ 36) (hs : 0 < sz) (hs2 : sz ≤ 700)
    (hh : ∀ x, ((wipe σ [j]).set j x)[h]? = some (some (.ref a))) (hw : ∀ x, ((wipe σ [j]).set j x)[w]? = some (some (.int b))) (hS : ∀ x H Q, Q (.int sz) H → teS ((wipe σ [j]).set j x) H Q) (hj : ∀ x, wipe ((wipe σ [j]).set j x) [j] = wipe σ [j]) (hn : n < sizeLine)
    (q : ∀ H' (d' m' : Nat) (ls : List Nat), ls.length = n → (∀ x ∈ ls, mir b x = true ∧ 0 < x ∧ x < b ^ sz) → m' < 2147483587 → Led B ((P, .lst (nints ls)) :: F.set i (a, .lst [.int d', .int m'])) H' → Qd H') :
    LcG (Itr 0 n) (gName j) tYes (tGo (sp__law_mirrored K C) (fun _ => E0) (tCons (tVar h) (tCons (tVar w) (tCons (tOp (rI0 fun i j => .int (i + j)) (tC (.int 1)) (tGo (sp__law_draw K C) (fun _ => E0) (tCons (tVar h) (tCons teS tNil)))) tNil)))) [j] σ P Qd H := by
  refine lc_g walk_range (fun k H' => ∃ (d' m' : Nat) (ls : List Nat), ls.length = k ∧ (∀ x ∈ ls, mir b x = true ∧ 0 < x ∧ x < b ^ sz) ∧ m' < 2147483587 ∧ Led B ((P, .lst (nints ls)) :: F.set i (a, .lst [.int d', .int m'])) H') ?_ (fun _ _ _ _ => trivial) ?_ ?_
  · exact ⟨d, m, [], rfl, fun x hx => (nomatch hx), hm, by rw [set_same hF]; exact L.new hP⟩
  · rintro k x H1 H2 hk ⟨d', m', ls, e1, e2, e3, L1⟩ y
    obtain ⟨e, y⟩ := y
    subst e
    subst y
    have hF' : (F.set i (a, HO.lst [.int d', .int m']))[i]? = some (a, .lst [.int d', .int m']) := List.getElem?_set_self (lt_of_get hF)
    have hF2 : ((P, HO.lst (nints ls)) :: F.set i (a, HO.lst [.int d', .int m']))[i + 1]? = some (a, .lst [.int d', .int m']) := by
      rw [List.getElem?_cons_succ]
      exact hF'
    refine ⟨hj _, ?_⟩
    rw [a_yes, if_pos rfl]
    refine ⟨_, hh _, _, hw _, ?_⟩
    simp only [a_op, a_c, a_go, a_cons, a_nil, a_var, a_rI0]
    refine ⟨_, hh _, hS _ _ _ ?_⟩
    refine use_draw L1 (i + 1) hF2 e3 hs (by omega) fun H3 d3 m3 g hm3 hg L3 => ⟨_, _, rfl, rfl, ?_⟩
    rw [show (1 : Int) + (g : Nat) = ((1 + g : Nat) : Int) by omega]
    rw [List.set_cons_succ, List.set_set] at L3
    have hF3 : ((P, HO.lst (nints ls)) :: F.set i (a, HO.lst [.int d3, .int m3]))[i + 1]? = some (a, .lst [.int d3, .int m3]) := by
      rw [List.getElem?_cons_succ]
      exact List.getElem?_set_self (lt_of_get hF)
    refine use_mirrored L3 (i + 1) hF3 hm3 hb hb2 (by omega) (by omega) fun H4 d4 m4 l hm4 good hpos hll hrev L4 => ?_
    rw [List.set_cons_succ, List.set_set] at L4
    refine ⟨_, L4.get 0 rfl, by rw [nints_len, e1]; omega, d4, m4, ls ++ [val b l], ?_, ?_, hm4, ?_⟩
    · rw [List.length_append, e1]
      rfl
    · intro x hx
      rcases List.mem_append.mp hx with z | z
      · exact e2 x z
      · rw [List.mem_singleton.mp z]
        exact good_facts hb good hpos (by omega) hrev
    · have e4 : nints (ls ++ [val b l]) = nints ls ++ [.int (val b l : Nat)] := by simp [nints]
      rw [e4]
      exact L4.put 0 rfl
  · rintro H' ⟨d', m', ls, e1, e2, e3, L1⟩
    exact q H' d' m' ls e1 e2 e3 L1
/-- the size of the drawn halves stays below a million -/
theorem size6 {b s : Nat} (hb : 2 ≤ b) (hs : s ≤ ln b 1000000 - 1) : b ^ s ≤ 1000000 :=
  Nat.le_trans (Nat.pow_le_pow_right (by omega) hs) (ln_low hb (by decide))
theorem ln6 {b : Nat} (hb : 2 ≤ b) (hb2 : b ≤ 36) : 4 ≤ ln b 1000000 ∧ ln b 1000000 ≤ 20 := by
  refine ⟨Nat.lt_of_not_le fun z => ?_, ?_⟩
  · have h1 := ln_high (n := 1000000) hb
    have h2 : b ^ ln b 1000000 ≤ 36 ^ 3 := Nat.le_trans (Nat.pow_le_pow_right (by omega) z) (Nat.pow_le_pow_left hb2 3)
    have h3 : 1000000 < 36 ^ 3 := Nat.lt_of_lt_of_le h1 h2
    exact absurd h3 (by decide)
  · exact figs_len hb (Nat.lt_of_lt_of_le (show 1000000 < 2 ^ 20 by decide) (Nat.pow_le_pow_left hb 20)) (by decide)
theorem prF_get {as : List Addr} {ms : List Nat} {n k : Nat} {x : V} (hl : as.length = ms.length) (hx : (as.map V.ref)[k]? = some x) : ∃ w m, x = .ref w ∧ as[k]? = some w ∧ ms[k]? = some m ∧ (w, HO.lst [.int (m : Nat), .int ((n - m : Nat) : Int)]) ∈ prF as ms n := by
  rw [List.getElem?_map] at hx
  cases e : as[k]? with
  | none => rw [e] at hx; cases hx
  | some w =>
    rw [e] at hx
    cases hx
    have hk := lt_of_get e
    obtain ⟨m, hm⟩ : ∃ m, ms[k]? = some m := ⟨_, List.getElem?_eq_getElem (by omega)⟩
    refine ⟨w, m, rfl, rfl, hm, ?_⟩
    unfold prF
    refine List.mem_map.mpr ⟨(w, m), ?_, rfl⟩
    refine List.mem_of_getElem? (i := k) ?_
    rw [List.getElem?_zip_eq_some]
    exact ⟨e, hm⟩
def pairD (n m : Nat) : PyData := .list [.int (m : Nat), .int ((n - m : Nat) : Int)]
theorem dp_pairs (n : Nat) : ∀ (as : List Addr) (ms : List Nat), as.length = ms.length → (∀ x ∈ prF as ms n, H x.1 = some x.2) → DpAll K H (as.map V.ref) (ms.map fun m => pairD n m)
  | [], [], _, _ => .nil
  | [], _ :: _, h, _ => by cases h
  | _ :: _, [], h, _ => by cases h
  | a :: as, m :: ms, h, hx => by
    refine .cons (.lst (SqL.of (hx (a, _) (by unfold prF; rw [List.zip_cons_cons, List.map_cons]; exact List.mem_cons_self))) (.cons (.int _) (.cons (.int _) .nil))) (dp_pairs n as ms (Nat.succ.inj h) fun x hm => hx x ?_)
    unfold prF at hm ⊢
    rw [List.zip_cons_cons, List.map_cons]
    exact List.mem_cons_of_mem _ hm
theorem shaped_pairs (n : Nat) (ms : List Nat) : SeqAt.shaped (.list (ms.map fun m => pairD n m)) = true := by
  have h : ∀ ms : List Nat, PyData.canLayAll0 (ms.map fun m => pairD n m) = true ∧ PyData.depthAll (ms.map fun m => pairD n m) ≤ 1 := by
    intro ms
    induction ms with
    | nil => exact ⟨rfl, Nat.zero_le _⟩
    | cons m ms ih =>
      refine ⟨?_, ?_⟩
      · show (PyData.canLay0 (pairD n m) && _) = true
        rw [ih.1]
        rfl
      · show max 1 _ ≤ 1
        exact Nat.max_le.mpr ⟨Nat.le_refl _, ih.2⟩
  show (PyData.canLayAll0 _ && decide (PyData.depthAll _ + 1 ≤ 64)) = true
  rw [(h ms).1, decide_eq_true (by have := (h ms).2; omega)]
  rfl
/-- the pair m, n - m and the pair x, y -/
theorem pair_eq (n m : Nat) (x y : Nat) : PyData.eqv (pairD n m) (.list [.int (x : Nat), .int (y : Nat)]) = decide (m = x ∧ n - m = y) := by
  have e : PyData.eqv (pairD n m) (.list [.int (x : Nat), .int (y : Nat)]) = (((m : Int) == (x : Int)) && ((((n - m : Nat) : Int) == (y : Int)) && true)) := by simp only [pairD, PyData.eqv, PyData.eqvAll]
  rw [e]
  by_cases h1 : m = x
  · by_cases h2 : n - m = y
    · rw [decide_eq_true ⟨h1, h2⟩, h2, h1]
      simp
    · rw [decide_eq_false (fun z => h2 z.2)]
      have q : (((n - m : Nat) : Int) == (y : Int)) = false := beq_eq_false_iff_ne.mpr (by omega)
      rw [q, Bool.false_and, Bool.and_false]
  · rw [decide_eq_false (fun z => h1 z.1)]
    have q : (((m : Nat) : Int) == (x : Int)) = false := beq_eq_false_iff_ne.mpr (by omega)
    rw [q, Bool.false_and]
theorem pairs_any (n x y : Nat) (ms : List Nat) : ((ms.map fun m => pairD n m).any fun z => PyData.eqv z (.list [.int (x : Nat), .int (y : Nat)])) = decide (x ∈ ms ∧ n - x = y) := by
  induction ms with
  | nil => rw [decide_eq_false (fun z => nomatch z.1)]; rfl
  | cons m ms ih =>
    rw [List.map_cons, List.any_cons, ih, pair_eq]
    by_cases h : m = x ∧ n - m = y
    · rw [decide_eq_true h, decide_eq_true (show x ∈ m :: ms ∧ n - x = y from ⟨by rw [h.1]; exact List.mem_cons_self, by rw [← h.1]; exact h.2⟩)]
      rfl
    · rw [decide_eq_false h, Bool.false_or]
      by_cases h2 : x ∈ ms ∧ n - x = y
      · rw [decide_eq_true h2, decide_eq_true (show x ∈ m :: ms ∧ n - x = y from ⟨List.mem_cons_of_mem _ h2.1, h2.2⟩)]
      · rw [decide_eq_false h2, decide_eq_false]
        rintro ⟨z1, z2⟩
        rcases List.mem_cons.mp z1 with z | z
        · exact h ⟨z.symm, by rw [← z]; exact z2⟩
        · exact h2 ⟨z, z2⟩
theorem pairs_count (n x y : Nat) (ms : List Nat) (h : n - x = y) : ((ms.map fun m => pairD n m).countP fun z => PyData.eqv z (.list [.int (x : Nat), .int (y : Nat)])) = ms.count x := by
  induction ms with
  | nil => rfl
  | cons m ms ih =>
    rw [List.map_cons, List.countP_cons, ih, List.count_cons, pair_eq]
    by_cases e : m = x
    · subst e
      rw [decide_eq_true ⟨rfl, h⟩]
      simp
    · rw [decide_eq_false (fun z => e z.1)]
      simp [e]
/-- the first of the pairs, or None -/
def firstD (n : Nat) : List Nat → PyData
  | [] => .none
  | m :: _ => pairD n m
theorem firstD_shaped (n : Nat) (ms : List Nat) : SeqAt.shaped (firstD n ms) = true := by
  cases ms with
  | nil => rfl
  | cons m r => rfl
theorem firstD_eqv (n : Nat) (ms : List Nat) : PyData.eqv (firstD n ms) (firstD n ms) = true := by
  cases ms with
  | nil => rfl
  | cons m r =>
    show PyData.eqv (pairD n m) (.list [.int (m : Nat), .int ((n - m : Nat) : Int)]) = true
    rw [pair_eq]
    exact decide_eq_true ⟨rfl, rfl⟩
theorem use_firstD {n b : Nat} (L : Led B F H) (hb : 2 ≤ b) (hb2 : b ≤ 36) (hn : n ≤ 10000000) (q : ∀ x H', Led B F H' → Dp K H' x (firstD n (twos b n)) → (x = .non ↔ twos b n = []) → Q x H') : sp_first_by_two K C [.int n, .int b] H Q E :=
  ⟨_, _, rfl, NB.good hb hb2 ⟨n, rfl, hn, fun e H' M => q _ H' (L.step0 M) (by rw [e]; exact .non) ⟨fun _ => e, fun _ => rfl⟩, fun m r e p H' M => q _ H' (L.step0 M.none) (by rw [e]; exact .lst (M.sqI 0 rfl) (.cons (.int _) (.cons (.int _) .nil))) ⟨fun z => (nomatch z), fun z => by rw [e] at z; cases z⟩⟩⟩
/-- (ways + [None])[0] -/
theorem first_at {n : Nat} {as : List Addr} {ms : List Nat} (hl : as.length = ms.length) : ∃ y, atI (as.map V.ref ++ [V.non]) 0 = some y ∧ ∀ H' : Hp, (∀ x ∈ prF as ms n, H' x.1 = some x.2) → Dp K H' y (firstD n ms) := by
  cases as with
  | nil =>
    cases ms with
    | nil => exact ⟨.non, rfl, fun _ _ => .non⟩
    | cons _ _ => cases hl
  | cons a as =>
    cases ms with
    | nil => cases hl
    | cons m r =>
      refine ⟨.ref a, atI_nat (j := 0) (v := V.ref a) rfl, fun H' h => .lst (SqL.of (h (a, _) ?_)) (.cons (.int _) (.cons (.int _) .nil))⟩
      unfold prF
      rw [List.zip_cons_cons, List.map_cons]
      exact List.mem_cons_self
end
end Mi

namespace Mi
open PySem PySem.Spec PyProof.Rows L2
def t_some_by_two (K : PySem.W.Frag) (C : Str → Addr) (E : XK) : TS :=
  (tSeq (tAsg (tLst tNil) (gName 3))
    (tSeq (tAsg (tGo (sp_at_most K C) (fun _ => E0) (tCons (tCB rMax2 (tCons (tC (.int 0)) (tCons (tOp (rI0 fun i j => .int (i - j)) (tVar 0) (tC (.int 1))) tNil))) (tCons (tVar 1) tNil))) (gName 4))
    (tSeq (tWhile (tAnd (tTest (tOp (rI0 fun i j => .bl (decide (j ≤ i))) (tOp (rI CMul fun i j => .int (i * j)) (tC (.int 2)) (tVar 4)) (tVar 0))) (tAnd (tTest (tOp (rI0 fun i j => .bl (decide (j < i))) (tVar 4) (tC (.int 0)))) (tTest (tOp (rI0 fun i j => .bl (decide (i < j))) (tCB (rLenL K) (tCons (tVar 3) tNil)) (tVar 2))))) (Evl.tCut (tIfS (tB (tGo (sp_is_mirrored K C) (fun _ => E0) (tCons (tOp (rI0 fun i j => .int (i - j)) (tVar 0) (tVar 4)) (tCons (tVar 1) tNil)))) (tDrop (tBM K "list" rAppend (tVar 3) (tCons (tLst (tCons (tVar 4) (tCons (tOp (rI0 fun i j => .int (i - j)) (tVar 0) (tVar 4)) tNil))) tNil))) tNext)
    (tAsg (tGo (sp_at_most K C) (fun _ => E0) (tCons (tOp (rI0 fun i j => .int (i - j)) (tVar 4) (tC (.int 1))) (tCons (tVar 1) tNil))) (gName 4))))
    (tRet (tVar 3)))))
def t_by_two (K : PySem.W.Frag) (C : Str → Addr) (E : XK) : TS :=
  (tSeq (tDrop (tGo (sp_need_base K C) (fun _ => E) (tCons (tVar 1) tNil)))
    (tRet (tGo (sp_some_by_two K C) (fun _ => E0) (tCons (tVar 0) (tCons (tVar 1) (tCons (tVar 0) tNil))))))
def t_many_by_two (K : PySem.W.Frag) (C : Str → Addr) (E : XK) : TS :=
  (tRet (tCB (rLenL K) (tCons (tGo (sp_by_two K C) (fun _ => E) (tCons (tVar 0) (tCons (tVar 1) tNil))) tNil)))
def t_first_by_two (K : PySem.W.Frag) (C : Str → Addr) (E : XK) : TS :=
  (tSeq (tDrop (tGo (sp_need_base K C) (fun _ => E) (tCons (tVar 1) tNil)))
    (tSeq (tAsg (tGo (sp_some_by_two K C) (fun _ => E0) (tCons (tVar 0) (tCons (tVar 1) (tCons (tC (.int 1)) tNil)))) (gName 2))
    (tSeq (tIfS (tTest (tOp (rEqD K) (tVar 2) (tLst tNil))) (tRet (tC .non)) tNext)
    (tRet (tOp (rIxL K) (tVar 2) (tC (.int 0)))))))
end Mi

namespace Mi
open PySem PySem.Spec PyProof.Rows L2
def t_a_few (K : PySem.W.Frag) (C : Str → Addr) (E : XK) : TS :=
  (tSeq (tDrop (tGo (sp_need_base K C) (fun _ => E) (tCons (tVar 1) tNil)))
    (tSeq (tAsg (tLst tNil) (gName 2))
    (tSeq (tWhile (tTest (tOp (rI0 fun i j => .bl (decide (j < i))) (tVar 0) (tC (.int 0)))) (tSeq (tDrop (tBM K "list" rAppend (tVar 2) (tCons (tGo (sp_at_most K C) (fun _ => E) (tCons (tVar 0) (tCons (tVar 1) tNil))) tNil)))
    (tAug 0 (tOp (rIxL K) (tVar 2) (tUn (rU fun i => .int (-i)) (tC (.int 1)))) (ipI fun i j => i - j))))
    (tRet (tVar 2)))))
end Mi

namespace Mi
open PySem PySem.Spec PyProof.Rows L2
local macro_rules
  | `(tactic| walk_at "w") => `(tactic| try simp only [a_seq, a_next, a_tru, tru_bl, b_isB, b_notB, isi_ii, isi_ib, isi_bi, isi_bb, a_asg, a_name, a_var, a_c, a_op, a_un, a_rI, a_rI0, a_rU, a_ret, a_retN, a_ifS, a_drop, a_aug, a_ipI, a_test, a_B, a_and, a_or, a_not, a_andV, a_orV, a_notV, a_ifE, a_nil, a_cons, a_lst, a_tup, a_cb, a_go, a_bm, a_bm0, a_sl, a_po, a_pn,
      a_gsub, a_gnil, a_gcons, a_gtup, a_chain, a_eq, a_ne, a_yes, a_revL, a_slL, a_ixL, a_ixT, a_append, a_setL, a_cat, a_for, a_lc, a_iL, a_iT, a_iR1, a_iR2, a_iE, a_iZ, a_iS, b_lenL, b_int1b, b_int1i, b_listOf, b_max2, b_min2, b_sum, b_rep, b_eqLI0, b_eqLI1, b_isN, b_notN, b_listEnum, b_raise0,
      List.getElem?_cons_zero, List.getElem?_cons_succ, List.set_cons_zero, List.set_cons_succ, Option.some.injEq, V.int.injEq, V.ref.injEq, V.bl.injEq, V.str.injEq, List.cons.injEq, and_true, true_and, exists_eq_left', exists_eq_left, exists_eq_right, exists_eq_right', exists_and_left, exists_eq', exists_eq, decide_eq_true_eq, scal_ii, scal_bb, scal_ss, wipe, ↓reduceIte, reduceCtorEq,
      Bool.not_eq_true', Bool.false_eq_true, not_false_eq_true, not_true_eq_false, if_true, if_false, decide_eq_false_iff_not, List.length_cons, List.length_nil, Nat.zero_add, CDiv, CMul, CPow])
local macro_rules
  | `(tactic| walk_at "z") => `(tactic| first | omega | (rw [sizeLine_eq]; simp only [List.length_append, List.length_map, List.length_cons, List.length_nil, List.length_reverse, nints]; omega) | decide | (simp only [List.length_append, List.length_map, List.length_cons, List.length_nil]; omega))
section
variable {K : PySem.W.Frag} {C : Str → Addr} {H B : Hp} {Q : VK} {E : XK} {F : List (Addr × HO)} {vs : List V}
theorem rd_a_few (h : sp_a_few K C vs H Q E) : t_a_few K C E (fin Q) (start ["number", "base", "found"] vs) H := by
  obtain ⟨y, x, rfl, nb⟩ := h
  show t_a_few K C E (fin Q) [some y, some x, none] H
  unfold t_a_few
  walk_at "w"
  refine nb.need fun b e hb hb2 ⟨n, e2, hn, q⟩ => ?_
  subst e
  subst e2
  clear nb
  have hn' : n < lim := by have := lim1_lim hn; omega
  refine ⟨by decide, fun p hp => ?_⟩
  have L0 := (Led.refl H).new (o := .lst []) hp
  generalize upd _ _ _ = H0 at L0 ⊢
  have hl := fews_lim hb hn'
  refine whl (fun m σ H1 => ∃ l : List Nat, m ≤ n ∧ fews b n = l ++ fews b m ∧ Led H [(p, .lst (nints l))] H1 ∧ σ = [some (.int m), some (.int b), some (.ref p)]) n ⟨[], Nat.le_refl _, rfl, L0, rfl⟩ ?_
  rintro N hN m σ H1 ⟨l, h1, h2, L1, rfl⟩
  walk_at "w"
  by_cases c : m = 0
  · subst c
    rw [if_neg (by decide)]
    rw [fews_zero, List.append_nil] at h2
    rw [← h2] at L1
    exact q _ _ L1
  · rw [if_pos (by omega)]
    refine whb ?_
    walk_at "w"
    have hlen : l.length ≤ 700 := by
      have := congrArg List.length h2
      rw [List.length_append] at this
      omega
    refine ⟨.inl ⟨rfl, _, L1.sqI 0 rfl⟩, use_low L1 hb hb2 (by omega) fun H2 L2 => ⟨_, L2.get 0 rfl, by rw [nints_len, sizeLine_eq]; omega, ?_⟩⟩
    have L3 := L2.put (o' := .lst (nints l ++ [V.int (lowM b m : Nat)])) 0 rfl
    generalize upd _ _ _ = H3 at L3 ⊢
    have e3 : nints l ++ [V.int (lowM b m : Nat)] = nints (l ++ [lowM b m]) := by simp [nints]
    rw [e3] at L3
    have hp := low_pos (n := m) hb (by omega)
    have hq := low_le (n := m) hb
    refine ⟨_, L3.sqI 0 rfl, V.int (lowM b m : Nat), ?_, _, rfl, m - lowM b m, by omega, hN _ _ _ ⟨l ++ [lowM b m], by omega, ?_, L3, ?_⟩⟩
    · rw [← e3]
      exact atI_last _ _
    · rw [List.append_assoc, h2, fews_pos hb (show 0 < m by omega)]
      rfl
    · rw [Int.natCast_sub hq]
end
end Mi

namespace Mi
open PySem PySem.Spec PyProof.Rows L2
local macro_rules
  | `(tactic| walk_at "w") => `(tactic| try simp only [a_seq, a_next, a_tru, tru_bl, b_isB, b_notB, b_mulS, b_addS, b_intS, b_lstRg, b_rg1, b_rg2, a_to, isi_ii, isi_ib, isi_bi, isi_bb, a_asg, a_name, a_var, a_c, a_op, a_un, a_rI, a_rI0, a_rU, a_ret, a_retN, a_ifS, a_drop, a_aug, a_ipI, a_test, a_B, a_and, a_or, a_not, a_andV, a_orV, a_notV, a_ifE, a_nil, a_cons, a_lst, a_tup, a_cb, a_go, a_bm, a_bm0, a_sl, a_po, a_pn,
      a_gsub, a_gnil, a_gcons, a_gtup, a_chain, a_eq, a_ne, a_yes, a_revL, a_slL, a_ixL, a_ixT, a_append, a_setL, a_cat, a_for, a_lc, a_iL, a_iT, a_iR1, a_iR2, a_iE, a_iZ, a_iS, b_lenL, b_int1b, b_int1i, b_listOf, b_max2, b_min2, b_sum, b_rep, b_eqLI0, b_eqLI1, b_isN, b_notN, b_listEnum, b_raise0,
      List.getElem?_cons_zero, List.getElem?_cons_succ, List.set_cons_zero, List.set_cons_succ, Option.some.injEq, V.int.injEq, V.ref.injEq, V.bl.injEq, V.str.injEq, List.cons.injEq, and_true, true_and, exists_eq_left', exists_eq_left, exists_eq_right, exists_eq_right', exists_and_left, exists_eq', exists_eq, decide_eq_true_eq, scal_ii, scal_bb, scal_ss, wipe, ↓reduceIte, reduceCtorEq,
      Bool.not_eq_true', Bool.false_eq_true, not_false_eq_true, not_true_eq_false, if_true, if_false, decide_eq_false_iff_not, List.length_cons, List.length_nil, Nat.zero_add, CDiv, CMul, CPow])
local macro_rules
  | `(tactic| walk_at "z") => `(tactic| first | omega | (rw [sizeLine_eq]; simp only [List.length_append, List.length_map, List.length_cons, List.length_nil, List.length_reverse, nints]; omega) | decide | (simp only [List.length_append, List.length_map, List.length_cons, List.length_nil]; omega))
section
variable {K : PySem.W.Frag} {C : Str → Addr} {H B : Hp} {Q : VK} {E : XK} {F : List (Addr × HO)} {vs : List V}
theorem rd_some_by_two (h : sp_some_by_two K C vs H Q E) : t_some_by_two K C E (fin Q) (start ["number", "base", "most", "found", "one"] vs) H := by
  obtain ⟨n, b, k, rfl, hb, hb2, hn, q⟩ := h
  show t_some_by_two K C E (fin Q) [some (.int n), some (.int b), some (.int k), none, none] H
  unfold t_some_by_two
  have hn1 : n < lim1 := Nat.lt_of_le_of_lt hn (by decide +kernel)
  have hn2 : n < lim := Nat.lt_of_le_of_lt hn (by decide +kernel)
  walk_at "w"
  refine ⟨by decide, fun p hp => ?_⟩
  have L0 := (Led.refl H).new (o := .lst []) hp
  generalize upd _ _ _ = H0 at L0 ⊢
  have em : (if (n : Int) - 1 > 0 then (n : Int) - 1 else 0) = ((n - 1 : Nat) : Int) := by
    by_cases c : (n : Int) - 1 > 0
    · rw [if_pos c]
      omega
    · rw [if_neg c]
      omega
  rw [em]
  refine use_low L0 hb hb2 (by omega) fun H1 L1 => ?_
  walk_at "w"
  refine whl (fun m σ H' => ∃ (one : Nat) (as : List Addr), m = one ∧ mir b one = true ∧ (0 < one → one < n) ∧ as.length = (fl (pT b n) n one).length ∧ as.length ≤ k ∧ Led H ((p, .lst (as.map V.ref)) :: prF as (fl (pT b n) n one) n) H' ∧ σ = [some (.int n), some (.int b), some (.int k), some (.ref p), some (.int one)]) (lowM b (n - 1)) ⟨lowM b (n - 1), [], rfl, low_mir hb, fun z => ?_, ?_, Nat.zero_le _, ?_, rfl⟩ ?_
  · have := low_le (n := n - 1) hb
    omega
  · rw [twos_start hb]
  · rw [twos_start hb]
    exact L1
  rintro N hN m σ H2 ⟨one, as, em2, hm, ho, hal, hak, L2, rfl⟩
  have em2 := em2.symm
  subst em2
  have htl := fl_len (p := pT b n) n one
  walk_at "w"
  have hend : (2 * one < n ∨ one = 0) → Q (.ref p) H2 := by
    intro z
    have e := twos_end (b := b) z
    rw [e] at hal L2
    have e2 : (twos b n).take k = twos b n := List.take_of_length_le (by omega)
    rw [← e2] at hal L2
    exact q _ _ _ hal L2
  refine ⟨.inl (by decide), ?_⟩
  by_cases c1 : n ≤ 2 * one
  · rw [if_pos (by omega)]
    by_cases c2 : 0 < one
    · rw [if_pos (by omega)]
      refine ⟨_, .inl (L2.sqI 0 rfl), ?_⟩
      by_cases c3 : as.length < k
      · rw [if_pos (by rw [List.length_map]; omega)]
        have hon := ho c2
        refine whb ?_
        have turn := twos_turn hb c1 c2 hon hm
        refine cut_ (fun σ H' => ∃ as, as.length = (fl (pT b n) n (lowM b (one - 1))).length ∧ as.length ≤ k ∧ Led H ((p, .lst (as.map V.ref)) :: prF as (fl (pT b n) n (lowM b (one - 1))) n) H' ∧ σ = [some (.int n), some (.int b), some (.int k), some (.ref p), some (.int one)]) ?_ ?_
        · intro M hM
          walk_at "w"
          rw [show (n : Int) - one = ((n - one : Nat) : Int) by omega]
          refine use_is L2 hb hb2 (by omega) fun H3 L3 => ⟨_, rfl, ?_⟩
          by_cases c4 : mir b (n - one) = true
          · rw [if_pos c4]
            rw [if_pos c4] at turn
            refine ⟨.inl ⟨rfl, _, L3.sqI 0 rfl⟩, by decide, fun a ha => ?_⟩
            have L4 := L3.new (o := .lst [V.int (one : Nat), V.int ((n - one : Nat) : Int)]) ha
            generalize upd _ _ _ = H4 at L4 ⊢
            refine ⟨_, L4.get 1 rfl, by rw [List.length_map, sizeLine_eq]; omega, ?_⟩
            have L5 := L4.put (o' := .lst (as.map V.ref ++ [V.ref a])) 1 rfl
            refine hM _ _ ⟨as ++ [a], ?_, ?_, ?_, rfl⟩
            · rw [turn, List.length_append, List.length_append, hal]
              rfl
            · rw [List.length_append]
              simp only [List.length_cons, List.length_nil]
              omega
            · rw [turn, prF_snoc hal, List.map_append]
              refine L5.perm ?_
              rw [List.set_cons_succ, List.set_cons_zero]
              refine (List.Perm.swap _ _ _).trans (List.Perm.cons _ ?_)
              exact (List.perm_append_comm (l₁ := [_]) (l₂ := prF as (fl (pT b n) n one) n))
          · rw [if_neg c4]
            rw [if_neg c4, List.append_nil] at turn
            rw [← turn] at hal L3
            exact hM _ _ ⟨as, hal, hak, L3, rfl⟩
        · rintro σ H3 ⟨as2, hal2, hak2, L3, rfl⟩
          walk_at "w"
          rw [show (one : Int) - 1 = ((one - 1 : Nat) : Int) by omega]
          refine use_low L3 hb hb2 (by omega) fun H4 L4 => ?_
          have hlo := low_le (n := one - 1) hb
          exact ⟨lowM b (one - 1), by omega, hN _ _ _ ⟨lowM b (one - 1), as2, rfl, low_mir hb, fun _ => by omega, hal2, hak2, L4, rfl⟩⟩
      · rw [if_neg (by rw [List.length_map]; omega)]
        obtain ⟨r, er⟩ := fl_pre (p := pT b n) (Nat.zero_le one) n
        have e2 : (twos b n).take k = fl (pT b n) n one := by
          unfold twos
          rw [er]
          exact List.take_left' (by omega)
        rw [← e2] at hal L2
        exact q _ _ _ hal L2
    · rw [if_neg (by omega)]
      exact hend (Or.inr (by omega))
  · rw [if_neg (by omega)]
    exact hend (Or.inl (by omega))
theorem use_some2 {n b k : Nat} (L : Led B F H) (hb : 2 ≤ b) (hb2 : b ≤ 36) (hn : n ≤ 10000000) (q : ∀ p as H', as.length = ((twos b n).take k).length → Led B (((p, .lst (as.map V.ref)) :: prF as ((twos b n).take k) n) ++ F) H' → Q (.ref p) H') : sp_some_by_two K C [.int n, .int b, .int k] H Q E :=
  ⟨n, b, k, rfl, hb, hb2, hn, fun p as H' h M => q p as H' h (L.step M)⟩
theorem rd_by_two (h : sp_by_two K C vs H Q E) : t_by_two K C E (fin Q) (start ["number", "base"] vs) H := by
  obtain ⟨y, x, rfl, nb⟩ := h
  show t_by_two K C E (fin Q) [some y, some x] H
  unfold t_by_two
  walk_at "w"
  refine nb.need fun b e hb hb2 ⟨n, e2, hn, q⟩ => ?_
  subst e
  subst e2
  refine use_some2 (Led.refl H) hb hb2 hn fun p as H' hl L => ?_
  rw [List.append_nil] at L
  rw [List.take_of_length_le twos_len] at hl L
  exact q p as H' hl L
theorem use_two {n b : Nat} (L : Led B F H) (hb : 2 ≤ b) (hb2 : b ≤ 36) (hn : n ≤ 10000000) (q : ∀ p as H', as.length = (twos b n).length → Led B (((p, .lst (as.map V.ref)) :: prF as (twos b n) n) ++ F) H' → Q (.ref p) H') : sp_by_two K C [.int n, .int b] H Q E :=
  ⟨_, _, rfl, NB.good hb hb2 ⟨n, rfl, hn, fun p as H' h M => q p as H' h (L.step M)⟩⟩
theorem rd_many_by_two (h : sp_many_by_two K C vs H Q E) : t_many_by_two K C E (fin Q) (start ["number", "base"] vs) H := by
  obtain ⟨y, x, rfl, hx, r, nb⟩ := h
  show t_many_by_two K C E (fin Q) [some y, some x] H
  unfold t_many_by_two
  walk_at "w"
  refine ⟨y, x, rfl, hx, r, fun b e hb hb2 => ?_⟩
  obtain ⟨n, e2, hn, q⟩ := nb b e hb hb2
  refine ⟨n, e2, hn, fun p as H' hl L => ?_⟩
  refine ⟨p, rfl, _, .inl (L.sqI 0 rfl), ?_⟩
  rw [List.length_map, hl]
  exact q H' L.none
theorem use_many2 {n b : Nat} (L : Led B F H) (hb : 2 ≤ b) (hb2 : b ≤ 36) (hn : n ≤ 10000000) (q : ∀ H', Led B F H' → Q (.int ((twos b n).length : Nat)) H') : sp_many_by_two K C [.int n, .int b] H Q E :=
  ⟨_, _, rfl, NB.good hb hb2 ⟨n, rfl, hn, fun H' M => q H' (L.step0 M)⟩⟩
theorem rd_first_by_two (h : sp_first_by_two K C vs H Q E) : t_first_by_two K C E (fin Q) (start ["number", "base", "found"] vs) H := by
  obtain ⟨y, x, rfl, nb⟩ := h
  show t_first_by_two K C E (fin Q) [some y, some x, none] H
  unfold t_first_by_two
  walk_at "w"
  refine nb.need fun b e hb hb2 ⟨n, e2, hn, q0, q1⟩ => ?_
  subst e
  subst e2
  refine use_some2 (k := 1) (Led.refl H) hb hb2 hn fun p as H' hl L => ?_
  rw [List.append_nil] at L
  walk_at "w"
  refine ⟨by decide, fun p2 hp2 => ?_⟩
  have L2 := L.new (o := .lst []) hp2
  generalize upd _ _ _ = H2 at L2 ⊢
  cases et : twos b n with
  | nil =>
    rw [et] at hl L2
    have ea : as = [] := List.length_eq_zero_iff.mp hl
    subst ea
    refine ⟨.list [], .list [], .lst (L2.sqI 1 rfl) .nil, .lst (L2.sqI 0 rfl) .nil, rfl, rfl, ?_⟩
    exact ⟨true, rfl, by rw [if_pos rfl]; exact q0 et _ L2.none⟩
  | cons m r =>
    rw [et] at hl L2
    obtain ⟨a, ea⟩ : ∃ a, as = [a] := by
      cases as with
      | nil => cases hl
      | cons a as =>
        cases as with
        | nil => exact ⟨a, rfl⟩
        | cons _ _ => simp at hl
    subst ea
    have L2 : Led H [(p2, .lst []), (p, .lst [.ref a]), (a, .lst [.int (m : Nat), .int ((n - m : Nat) : Int)])] H2 := L2
    refine ⟨.list [.list [.int m, .int ((n - m : Nat) : Int)]], .list [], .lst (L2.sqI 1 rfl) (.cons (.lst (L2.sqI 2 rfl) (.cons (.int _) (.cons (.int _) .nil))) .nil), .lst (L2.sqI 0 rfl) .nil, rfl, rfl, ?_⟩
    refine ⟨false, rfl, ?_⟩
    rw [if_neg (fun z => nomatch z)]
    exact ⟨_, L2.sqI 1 rfl, .ref a, rfl, q1 m r et a _ (L2.one 2 rfl)⟩
theorem use_first2 {n b : Nat} (L : Led B F H) (hb : 2 ≤ b) (hb2 : b ≤ 36) (hn : n ≤ 10000000) (q0 : twos b n = [] → ∀ H', Led B F H' → Q .non H')
    (q1 : ∀ m r, twos b n = m :: r → ∀ p H', Led B ((p, .lst [.int (m : Nat), .int ((n - m : Nat) : Int)]) :: F) H' → Q (.ref p) H') : sp_first_by_two K C [.int n, .int b] H Q E :=
  ⟨_, _, rfl, NB.good hb hb2 ⟨n, rfl, hn, fun e H' M => q0 e H' (L.step0 M), fun m r e p H' M => q1 m r e p H' (L.step M)⟩⟩
end
end Mi

namespace Mi
open PySem PySem.Spec PyProof.Rows L2
def sp__law_right (K : PySem.W.Frag) (C : Str → Addr) : Sp := fun vs H Q E => ∃ n b : Nat, vs = [.int n, .int b] ∧ 2 ≤ b ∧ b ≤ 36 ∧ n ≤ 10000000 ∧ ∀ H', Led H [] H' → Q (.bl true) H'
def sp_law (K : PySem.W.Frag) (C : Str → Addr) : Sp := fun vs H Q E => ∃ (a : Addr) (ns : List Int), vs = [.ref a] ∧ SqL K H a (ns.map V.int) ∧ ns.length ≤ 63 ∧ ∀ H', Q (.bl true) H'
def t__law_right (K : PySem.W.Frag) (C : Str → Addr) (E : XK) : TS :=
  (tSeq (tAsg (tGo (sp_by_two K C) (fun _ => E0) (tCons (tVar 0) (tCons (tVar 1) tNil))) (gName 2))
    (tSeq (tIfS (tTest (tOp rNe (tCB (rLenL K) (tCons (tVar 2) tNil)) (tGo (sp_many_by_two K C) (fun _ => E0) (tCons (tVar 0) (tCons (tVar 1) tNil))))) (tRet (tC (.bl false))) tNext)
    (tSeq (tIfS (tTest (tOp (rNeD K) (tGo (sp_first_by_two K C) (fun _ => E0) (tCons (tVar 0) (tCons (tVar 1) tNil))) (tOp (rIxL K) (tOp rCat (tVar 2) (tLst (tCons (tC .non) tNil))) (tC (.int 0))))) (tRet (tC (.bl false))) tNext)
    (tSeq (tFor (iList K (tVar 2)) (gName 3) (tSeq (tIfS (tOr (tTest (tOp rNe (tCB (rLenL K) (tCons (tVar 3) tNil)) (tC (.int 2)))) (tOr (tTest (tOp rNe (tCB (rSum K) (tCons (tVar 3) tNil)) (tVar 0))) (tOr (tTest (tOp (rI0 fun i j => .bl (decide (i < j))) (tOp (rIxL K) (tVar 3) (tC (.int 1))) (tC (.int 1)))) (tTest (tOp (rI0 fun i j => .bl (decide (i < j))) (tOp (rIxL K) (tVar 3) (tC (.int 0))) (tOp (rIxL K) (tVar 3) (tC (.int 1)))))))) (tRet (tC (.bl false))) tNext)
    (tIfS (tOr (tTest (tOp rNotB (tGo (sp_is_mirrored K C) (fun _ => E0) (tCons (tOp (rIxL K) (tVar 3) (tC (.int 0))) (tCons (tVar 1) tNil))) (tC (.bl true)))) (tTest (tOp rNotB (tGo (sp_is_mirrored K C) (fun _ => E0) (tCons (tOp (rIxL K) (tVar 3) (tC (.int 1))) (tCons (tVar 1) tNil))) (tC (.bl true))))) (tRet (tC (.bl false))) tNext)))
    (tSeq (tIfS (tTest (tOp (rEqLI K true) (tLc (iZip K (tCons (tVar 2) (tCons (tSl (rSlL K) (tVar 2) (tPart (tC (.int 1))) tNoPart) tNil))) (gTup K 2 (gCons (gName 5) (gCons (gName 6) gNil))) (tTest (tOp (rI0 fun i j => .bl (decide (j ≤ i))) (tOp (rIxL K) (tVar 6) (tC (.int 0))) (tOp (rIxL K) (tVar 5) (tC (.int 0))))) (tC (.int 1)) [5, 6]) (tLst tNil))) (tRet (tC (.bl false))) tNext)
    (tSeq (tAsg (tOp (rI CDiv fun i j => .int (i / j)) (tVar 0) (tC (.int 2))) (gName 4))
    (tRet (tOrV (tOp rEq (tOp (rI (fun _ j => 0 < j) fun i j => .int (i % j)) (tVar 0) (tC (.int 2))) (tC (.int 1))) (tOrV (tOp rEq (tVar 0) (tC (.int 0))) (tOp rEq (tOp (rInD K) (tLst (tCons (tVar 4) (tCons (tVar 4) tNil))) (tVar 2)) (tGo (sp_is_mirrored K C) (fun _ => E0) (tCons (tVar 4) (tCons (tVar 1) tNil)))))))))))))
def t_law (K : PySem.W.Frag) (C : Str → Addr) (E : XK) : TS :=
  (tSeq (tFor (iList K (tGo (sp__law_cells K C) (fun _ => E0) (tCons (tVar 0) (tCons (tC (.int 16)) tNil)))) (gTup K 2 (gCons (gName 1) (gCons (gName 2) gNil))) (tSeq (tAsg (tGo (sp__law_hand K C) (fun _ => E0) (tCons (tVar 2) (tCons (tVar 1) tNil))) (gName 3))
    (tSeq (tAsg (tGo (sp__law_base K C) (fun _ => E0) (tCons (tVar 3) tNil)) (gName 4))
    (tSeq (tAsg (tGo (sp__law_draw K C) (fun _ => E0) (tCons (tVar 3) (tCons (tC (.int 1500)) tNil))) (gName 5))
    (Evl.tCut (tIfS (tTest (tOp (rI0 fun i j => .bl (decide (i < j))) (tVar 1) (tC (.int 4)))) (tAsg (tGo (sp__law_number K C) (fun _ => E0) (tCons (tVar 3) (tCons (tVar 4) (tCons (tOp (rI CPow fun i j => .int (i ^ j.toNat)) (tC (.int 10)) (tC (.int 6))) tNil)))) (gName 5)) tNext)
    (tSeq (tIfS (tNot (tB (tGo (sp__law_right K C) (fun _ => E0) (tCons (tVar 5) (tCons (tVar 4) tNil))))) (tRet (tC (.bl false))) tNext)
    (tSeq (tAsg (tOp (rIxL K) (tLst (tCons (tOp (rI0 fun i j => .int (i - j)) (tCB (rLenL K) (tCons (tGo (sp__law_figures K C) (fun _ => E0) (tCons (tOp (rI CPow fun i j => .int (i ^ j.toNat)) (tC (.int 10)) (tC (.int 6))) (tCons (tVar 4) tNil))) tNil)) (tC (.int 1))) (tCons (tCB rMin2 (tCons (tC (.int 3)) (tCons (tCB (rLenL K) (tCons (tGo (sp__law_figures K C) (fun _ => E0) (tCons (tC (.int 1000)) (tCons (tVar 4) tNil))) tNil)) tNil))) tNil))) (tCB rInt1 (tCons (tOp (rI0 fun i j => .bl (decide (j < i))) (tVar 1) (tC (.int 3))) tNil))) (gName 6))
    (tSeq (tAsg (tLc (iRng1 (tCons (tC (.int 2)) tNil)) (gName 9) tYes (tGo (sp__law_mirrored K C) (fun _ => E0) (tCons (tVar 3) (tCons (tVar 4) (tCons (tOp (rI0 fun i j => .int (i + j)) (tC (.int 1)) (tGo (sp__law_draw K C) (fun _ => E0) (tCons (tVar 3) (tCons (tVar 6) tNil)))) tNil)))) [9]) (gName 7))
    (tSeq (tAsg (tRevL K (tCB (rSortedI K) (tCons (tVar 7) tNil))) (gName 7))
    (tIfS (tTest (tOp (rI0 fun i j => .bl (decide (i ≤ j))) (tCB (rSum K) (tCons (tVar 7) tNil)) (tOp (rI CPow fun i j => .int (i ^ j.toNat)) (tC (.int 10)) (tC (.int 6))))) (tSeq (tAsg (tGo (sp_by_two K C) (fun _ => E0) (tCons (tCB (rSum K) (tCons (tVar 7) tNil)) (tCons (tVar 4) tNil))) (gName 8))
    (tSeq (tIfS (tOr (tTest (tOp rNe (tBM K "list" (rCountD K) (tVar 8) (tCons (tVar 7) tNil)) (tC (.int 1)))) (tNot (tB (tGo (sp__law_right K C) (fun _ => E0) (tCons (tCB (rSum K) (tCons (tVar 7) tNil)) (tCons (tVar 4) tNil)))))) (tRet (tC (.bl false))) tNext)
    (tIfS (tOr (tTest (tOp (rNeD K) (tGo (sp_by_two K C) (fun _ => E0) (tCons (tVar 5) (tCons (tVar 4) tNil))) (tGo (sp_by_two K C) (fun _ => E0) (tCons (tVar 5) (tCons (tVar 4) tNil))))) (tTest (tOp (rNeD K) (tVar 8) (tGo (sp_by_two K C) (fun _ => E0) (tCons (tCB (rSum K) (tCons (tVar 7) tNil)) (tCons (tVar 4) tNil)))))) (tRet (tC (.bl false))) tNext))) tNext))))))))))
    (tRet (tC (.bl true))))
end Mi

namespace Mi
open PySem PySem.Spec PyProof.Rows L2
def t_power_of (K : PySem.W.Frag) (C : Str → Addr) (E : XK) : TS :=
  (tSeq (tAsg (tC (.int 1)) (gName 2))
    (tSeq (tFor (iRng1 (tCons (tVar 1) tNil)) (gName 3) (tAug 2 (tVar 0) (rI CMul fun i j => .int (i * j))))
    (tRet (tVar 2))))
def t_half_of (K : PySem.W.Frag) (C : Str → Addr) (E : XK) : TS :=
  (tSeq (tAsg (tGo (sp_figures_of K C) (fun _ => E0) (tCons (tVar 0) (tCons (tVar 1) tNil))) (gName 2))
    (tRet (tTup (tCons (tCB (rLenL K) (tCons (tVar 2) tNil)) (tCons (tGo (sp_put_together K C) (fun _ => E0) (tCons (tSl (rSlL K) (tVar 2) tNoPart (tPart (tOp (rI CDiv fun i j => .int (i / j)) (tOp (rI0 fun i j => .int (i + j)) (tCB (rLenL K) (tCons (tVar 2) tNil)) (tC (.int 1))) (tC (.int 2))))) (tCons (tVar 1) tNil))) tNil)))))
def t_mirror_of (K : PySem.W.Frag) (C : Str → Addr) (E : XK) : TS :=
  (tSeq (tAsg (tGo (sp_figures_of K C) (fun _ => E0) (tCons (tVar 0) (tCons (tVar 2) tNil))) (gName 3))
    (tRet (tGo (sp_put_together K C) (fun _ => E0) (tCons (tOp rCat (tVar 3) (tRevL K (tSl (rSlL K) (tVar 3) tNoPart (tPart (tOp (rI CDiv fun i j => .int (i / j)) (tVar 1) (tC (.int 2))))))) (tCons (tVar 2) tNil)))))
def t_at_most (K : PySem.W.Frag) (C : Str → Addr) (E : XK) : TS :=
  (tSeq (tDrop (tGo (sp_need_base K C) (fun _ => E) (tCons (tVar 1) tNil)))
    (tSeq (tAsg (tGo (sp_half_of K C) (fun _ => E0) (tCons (tVar 0) (tCons (tVar 1) tNil))) (gTup K 2 (gCons (gName 2) (gCons (gName 3) gNil))))
    (tSeq (tIfS (tTest (tOp (rI0 fun i j => .bl (decide (i ≤ j))) (tGo (sp_mirror_of K C) (fun _ => E0) (tCons (tVar 3) (tCons (tVar 2) (tCons (tVar 1) tNil)))) (tVar 0))) (tRet (tGo (sp_mirror_of K C) (fun _ => E0) (tCons (tVar 3) (tCons (tVar 2) (tCons (tVar 1) tNil))))) tNext)
    (tSeq (tIfS (tTest (tOp rEq (tVar 3) (tGo (sp_power_of K C) (fun _ => E0) (tCons (tVar 1) (tCons (tOp (rI CDiv fun i j => .int (i / j)) (tOp (rI0 fun i j => .int (i - j)) (tVar 2) (tC (.int 1))) (tC (.int 2))) tNil))))) (tRet (tOp (rI0 fun i j => .int (i - j)) (tGo (sp_power_of K C) (fun _ => E0) (tCons (tVar 1) (tCons (tOp (rI0 fun i j => .int (i - j)) (tVar 2) (tC (.int 1))) tNil))) (tC (.int 1)))) tNext)
    (tRet (tGo (sp_mirror_of K C) (fun _ => E0) (tCons (tOp (rI0 fun i j => .int (i - j)) (tVar 3) (tC (.int 1))) (tCons (tVar 2) (tCons (tVar 1) tNil)))))))))
def t_at_least (K : PySem.W.Frag) (C : Str → Addr) (E : XK) : TS :=
  (tSeq (tDrop (tGo (sp_need_base K C) (fun _ => E) (tCons (tVar 1) tNil)))
    (tSeq (tAsg (tGo (sp_half_of K C) (fun _ => E0) (tCons (tVar 0) (tCons (tVar 1) tNil))) (gTup K 2 (gCons (gName 2) (gCons (gName 3) gNil))))
    (tRet (tGo (sp_mirror_of K C) (fun _ => E0) (tCons (tOp (rI0 fun i j => .int (i + j)) (tVar 3) (tCB rInt1 (tCons (tOp (rI0 fun i j => .bl (decide (i < j))) (tGo (sp_mirror_of K C) (fun _ => E0) (tCons (tVar 3) (tCons (tVar 2) (tCons (tVar 1) tNil)))) (tVar 0)) tNil))) (tCons (tVar 2) (tCons (tVar 1) tNil)))))))
def t_many_of_size (K : PySem.W.Frag) (C : Str → Addr) (E : XK) : TS :=
  (tRet (tOp (rI CMul fun i j => .int (i * j)) (tOp (rI0 fun i j => .int (i - j)) (tVar 1) (tC (.int 1))) (tGo (sp_power_of K C) (fun _ => E0) (tCons (tVar 1) (tCons (tOp (rI CDiv fun i j => .int (i / j)) (tOp (rI0 fun i j => .int (i - j)) (tVar 0) (tC (.int 1))) (tC (.int 2))) tNil)))))
def t_many_to (K : PySem.W.Frag) (C : Str → Addr) (E : XK) : TS :=
  (tSeq (tDrop (tGo (sp_need_base K C) (fun _ => E) (tCons (tVar 1) tNil)))
    (tSeq (tIfS (tTest (tOp rEq (tVar 0) (tC (.int 0)))) (tRet (tC (.int 0))) tNext)
    (tSeq (tAsg (tGo (sp_half_of K C) (fun _ => E0) (tCons (tVar 0) (tCons (tVar 1) tNil))) (gTup K 2 (gCons (gName 3) (gCons (gName 4) gNil))))
    (tSeq (tAsg (tOp (rI0 fun i j => .int (i + j)) (tOp (rI0 fun i j => .int (i - j)) (tVar 4) (tGo (sp_power_of K C) (fun _ => E0) (tCons (tVar 1) (tCons (tOp (rI CDiv fun i j => .int (i / j)) (tOp (rI0 fun i j => .int (i - j)) (tVar 3) (tC (.int 1))) (tC (.int 2))) tNil)))) (tCB rInt1 (tCons (tOp (rI0 fun i j => .bl (decide (i ≤ j))) (tGo (sp_mirror_of K C) (fun _ => E0) (tCons (tVar 4) (tCons (tVar 3) (tCons (tVar 1) tNil)))) (tVar 0)) tNil))) (gName 2))
    (tRet (tOp (rI0 fun i j => .int (i + j)) (tVar 2) (tCB (rSum K) (tCons (tLc (iRng2 (tCons (tC (.int 1)) (tCons (tVar 3) tNil))) (gName 5) tYes (tGo (sp_many_of_size K C) (fun _ => E0) (tCons (tVar 5) (tCons (tVar 1) tNil))) [5]) tNil))))))))
def t_mirrored_at (K : PySem.W.Frag) (C : Str → Addr) (E : XK) : TS :=
  (tSeq (tDrop (tGo (sp_need_base K C) (fun _ => E) (tCons (tVar 1) tNil)))
    (tSeq (tIfS (tTest (tOp rEq (tVar 0) (tC (.int 0)))) (tRet (tC (.int 0))) tNext)
    (tSeq (tAsg (tOp (rI0 fun i j => .int (i - j)) (tVar 0) (tC (.int 1))) (gName 2))
    (tSeq (tAsg (tC (.int 1)) (gName 3))
    (tSeq (tWhile (tTest (tOp (rI0 fun i j => .bl (decide (j ≤ i))) (tVar 2) (tGo (sp_many_of_size K C) (fun _ => E0) (tCons (tVar 3) (tCons (tVar 1) tNil))))) (tSeq (tAug 2 (tGo (sp_many_of_size K C) (fun _ => E0) (tCons (tVar 3) (tCons (tVar 1) tNil))) (ipI fun i j => i - j))
    (tAug 3 (tC (.int 1)) (ipI fun i j => i + j))))
    (tRet (tGo (sp_mirror_of K C) (fun _ => E0) (tCons (tOp (rI0 fun i j => .int (i + j)) (tGo (sp_power_of K C) (fun _ => E0) (tCons (tVar 1) (tCons (tOp (rI CDiv fun i j => .int (i / j)) (tOp (rI0 fun i j => .int (i - j)) (tVar 3) (tC (.int 1))) (tC (.int 2))) tNil))) (tVar 2)) (tCons (tVar 3) (tCons (tVar 1) tNil))))))))))
def t_is_mirrored (K : PySem.W.Frag) (C : Str → Addr) (E : XK) : TS :=
  (tSeq (tDrop (tGo (sp_need_base K C) (fun _ => E) (tCons (tVar 1) tNil)))
    (tSeq (tIfS (tOr (tNot (tB (tGo (sp_is_whole K C) (fun _ => E0) (tCons (tVar 0) tNil)))) (tTest (tOp (rI0 fun i j => .bl (decide (i < j))) (tVar 0) (tC (.int 0))))) (tRet (tC (.bl false))) tNext)
    (tSeq (tAsg (tGo (sp_figures_of K C) (fun _ => E0) (tCons (tVar 0) (tCons (tVar 1) tNil))) (gName 2))
    (tRet (tOp (rEqLI K false) (tVar 2) (tRevL K (tVar 2)))))))
def t_place_of (K : PySem.W.Frag) (C : Str → Addr) (E : XK) : TS :=
  (tSeq (tIfS (tNot (tB (tGo (sp_is_mirrored K C) (fun _ => E) (tCons (tVar 0) (tCons (tVar 1) tNil))))) (tRaise0 E (.ref (C "NoMirror"))) tNext)
    (tRet (tGo (sp_many_to K C) (fun _ => E) (tCons (tVar 0) (tCons (tVar 1) tNil)))))
end Mi

namespace Mi
open PySem PySem.Spec PyProof.Rows L2
local macro_rules
  | `(tactic| walk_at "w") => `(tactic| try simp only [a_seq, a_next, a_asg, a_name, a_var, a_c, a_op, a_un, a_rI, a_rI0, a_rU, a_ret, a_retN, a_ifS, a_drop, a_aug, a_ipI, a_test, a_B, a_and, a_or, a_not, a_andV, a_orV, a_notV, a_ifE, a_nil, a_cons, a_lst, a_tup, a_cb, a_go, a_bm, a_bm0, a_sl, a_po, a_pn,
      a_gsub, a_gnil, a_gcons, a_gtup, a_chain, a_eq, a_ne, a_yes, a_revL, a_slL, a_ixL, a_ixT, a_append, a_setL, a_cat, a_for, a_lc, a_iL, a_iT, a_iR1, a_iR2, a_iE, a_iZ, a_iS, b_lenL, b_int1b, b_int1i, b_listOf, b_max2, b_min2, b_sum, b_rep, b_eqLI0, b_eqLI1, b_isN, b_notN, b_listEnum, b_raise0,
      List.getElem?_cons_zero, List.getElem?_cons_succ, List.set_cons_zero, List.set_cons_succ, Option.some.injEq, V.int.injEq, V.ref.injEq, V.bl.injEq, V.str.injEq, List.cons.injEq, and_true, true_and, exists_eq_left', exists_eq_left, exists_eq_right, exists_eq_right', exists_and_left, exists_eq', exists_eq, decide_eq_true_eq, scal_ii, scal_bb, scal_ss, wipe, ↓reduceIte, reduceCtorEq,
      Bool.not_eq_true', decide_eq_false_iff_not, List.length_cons, List.length_nil, Nat.zero_add, CDiv, CMul, CPow])
local macro_rules
  | `(tactic| walk_at "z") => `(tactic| first | omega | (rw [sizeLine_eq]; simp only [List.length_append, List.length_map, List.length_cons, List.length_nil, List.length_reverse, nints]; omega) | decide | (simp only [List.length_append, List.length_map, List.length_cons, List.length_nil]; omega))
section
variable {K : PySem.W.Frag} {C : Str → Addr} {H B : Hp} {Q : VK} {E : XK} {F : List (Addr × HO)} {vs : List V}
theorem rd_power_of (h : sp_power_of K C vs H Q E) : t_power_of K C E (fin Q) (start ["base", "many", "found", "turn"] vs) H := by
  obtain ⟨b, m, rfl, hb, hm, q⟩ := h
  show t_power_of K C E (fin Q) [some (.int b), some (.int m), none, none] H
  unfold t_power_of
  walk_at "w"
  refine ⟨by omega, by omega, for_r (fun i σ H1 => H1 = H ∧ ∃ y, σ = [some (.int b), some (.int m), some (.int ((b ^ i : Nat))), y]) ⟨rfl, none, by simp⟩ ?_ ?_⟩
  · rintro N hN i σ H1 hi ⟨rfl, y, rfl⟩
    walk_at "w"
    have h1 : i < m := by omega
    refine ⟨by omega, hN _ _ _ ⟨rfl, some (.int (0 + (i : Int))), ?_⟩⟩
    rw [Nat.pow_succ]
    simp
  · rintro σ H1 ⟨rfl, y, rfl⟩
    walk_at "w"
    rw [show (m : Int).toNat = m by omega]
    exact q
theorem use_pow {b m : Nat} (hb : b ≤ 36) (hm : m ≤ 100000) (q : Q (.int ((b ^ m : Nat))) H) : sp_power_of K C [.int b, .int m] H Q E := ⟨b, m, rfl, hb, hm, q⟩
theorem rd_half_of (h : sp_half_of K C vs H Q E) : t_half_of K C E (fin Q) (start ["number", "base", "some"] vs) H := by
  obtain ⟨n, b, rfl, hb, hb2, hn, q⟩ := h
  show t_half_of K C E (fin Q) [some (.int n), some (.int b), none] H
  unfold t_half_of
  walk_at "w"
  refine ⟨n, b, rfl, hb, hb2, hn, fun p1 H1 L1 => ?_⟩
  walk_at "w"
  refine ⟨_, .inl (L1.sqI 0 rfl), _, .inl (L1.sqI 0 rfl), by decide, _, L1.sqI 0 rfl, fun p2 hp2 => ?_⟩
  rw [show (((nints (figs b n)).length : Int) + 1) / 2 = (((ln b n + 1) / 2 : Nat) : Int) by rw [nints_len]; show (((figs b n).length : Int) + 1) / 2 = ((((figs b n).length + 1) / 2 : Nat) : Int); omega, cut_none]
  have L2 := L1.new (o := .lst ((nints (figs b n)).take ((ln b n + 1) / 2))) hp2
  generalize upd _ _ _ = H2 at L2 ⊢
  have e2 : (nints (figs b n)).take ((ln b n + 1) / 2) = nints ((figs b n).take ((ln b n + 1) / 2)) := by simp [nints, List.map_take]
  rw [e2] at L2
  refine ⟨p2, _, b, rfl, L2.sqI 0 rfl, hb2, ?_⟩
  rw [half_eq hb, nints_len]
  refine ⟨by decide, fun p3 hp3 => ?_⟩
  exact q _ _ ((L2.new hp3).one 0 rfl)
theorem use_half {n b : Nat} (L : Led B F H) (hb : 2 ≤ b) (hb2 : b ≤ 36) (hn : n < lim) (q : ∀ p H', Led B ((p, .tup [.int (ln b n : Nat), .int (half b n : Nat)]) :: F) H' → Q (.ref p) H') : sp_half_of K C [.int n, .int b] H Q E :=
  ⟨n, b, rfl, hb, hb2, hn, fun p H' M => q p H' (L.step M)⟩
theorem rd_mirror_of (h : sp_mirror_of K C vs H Q E) : t_mirror_of K C E (fin Q) (start ["half", "size", "base", "some"] vs) H := by
  obtain ⟨h, s, b, rfl, hb, hb2, hh, hs, q⟩ := h
  show t_mirror_of K C E (fin Q) [some (.int h), some (.int s), some (.int b), none] H
  unfold t_mirror_of
  walk_at "w"
  refine ⟨h, b, rfl, hb, hb2, hh, fun p1 H1 L1 => ?_⟩
  walk_at "w"
  refine ⟨by decide, _, L1.sqI 0 rfl, fun p2 hp2 => ?_⟩
  rw [show ((s : Int) / 2) = ((s / 2 : Nat) : Int) by omega, cut_none]
  have L2 := L1.new (o := .lst ((nints (figs b h)).take (s / 2))) hp2
  generalize upd _ _ _ = H2 at L2 ⊢
  refine ⟨_, L2.sqI 0 rfl, fun p3 hp3 => ?_⟩
  have L3 := L2.new (o := .lst (((nints (figs b h)).take (s / 2)).reverse)) hp3
  generalize upd _ _ _ = H3 at L3 ⊢
  have e3 : ((nints (figs b h)).take (s / 2)).reverse = nints (((figs b h).take (s / 2)).reverse) := by simp [nints, List.map_take]
  rw [e3] at L3
  have hl := figs_len_lim hb hh
  refine ⟨_, L3.get 2 rfl, _, L3.get 0 rfl, ?_, fun p4 hp4 => ?_⟩
  · rw [nints_len, nints_len, List.length_reverse, List.length_take, sizeLine_eq]
    omega
  have L4 := L3.new (o := .lst (nints (figs b h) ++ nints (((figs b h).take (s / 2)).reverse))) hp4
  generalize upd _ _ _ = H4 at L4 ⊢
  have e4 : nints (figs b h) ++ nints (((figs b h).take (s / 2)).reverse) = nints (figs b h ++ ((figs b h).take (s / 2)).reverse) := by simp [nints]
  rw [e4] at L4
  exact ⟨p4, _, b, rfl, L4.sqI 0 rfl, hb2, q _ L4.none⟩
theorem use_mir {h s b : Nat} (L : Led B F H) (hb : 2 ≤ b) (hb2 : b ≤ 36) (hh : h < lim) (hs : s ≤ 100000) (q : ∀ H', Led B F H' → Q (.int (pal b s h : Nat)) H') : sp_mirror_of K C [.int h, .int s, .int b] H Q E :=
  ⟨h, s, b, rfl, hb, hb2, hh, hs, fun H' M => q H' (L.step0 M)⟩
theorem half_lt {b n : Nat} : half b n ≤ n := Nat.div_le_self _ _
theorem vi_ne {m n : Nat} (h : m ≠ n) : ¬ V.int (m : Int) = V.int (n : Int) := fun z => h (Int.ofNat.inj (V.int.inj z))
theorem vi_eq {m n : Nat} (h : m = n) : V.int (m : Int) = V.int (n : Int) := by rw [h]
theorem unp {p : Addr} {u w : V} {P : V → V → Prop} (h : SqT K H p [u, w]) (q : P u w) : ∃ a, V.ref p = .ref a ∧ ∃ x, SqT K H a x ∧ x.length = 2 ∧ ∃ v r, x = v :: r ∧ ∃ v1 r1, r = v1 :: r1 ∧ r1 = [] ∧ P v v1 := ⟨p, rfl, _, h, rfl, u, _, rfl, w, _, rfl, rfl, q⟩
theorem rd_at_most (h : sp_at_most K C vs H Q E) : t_at_most K C E (fin Q) (start ["number", "base", "size", "half"] vs) H := by
  obtain ⟨y, x, rfl, nb⟩ := h
  show t_at_most K C E (fin Q) [some y, some x, none, none] H
  unfold t_at_most
  walk_at "w"
  refine nb.need fun b e hb hb2 ⟨n, e2, hn, q⟩ => ?_
  subst e
  subst e2
  have hn' : n < lim := by have := lim1_lim hn; omega
  have L0 := Led.refl H
  have hl : ln b n ≤ 700 := figs_len_lim hb hn'
  have hlp : 0 < ln b n := ln_pos
  have hh : half b n < lim := Nat.lt_of_le_of_lt half_lt hn'
  walk_at "w"
  refine use_half L0 hb hb2 hn' fun p1 H1 L1 => unp (L1.stI 0 rfl) ?_
  have L1 := L1.none
  walk_at "w"
  refine use_mir L1 hb hb2 hh (by omega) fun H2 L2 => ⟨_, rfl, ?_⟩
  unfold lowM at q
  by_cases c1 : own b n ≤ n
  · rw [if_pos (Int.ofNat_le.mpr c1)]
    rw [if_pos c1] at q
    exact use_mir L2 hb hb2 hh (by omega) q
  · rw [if_neg (fun z => c1 (Int.ofNat_le.mp z))]
    rw [if_neg c1] at q
    refine ⟨by decide, ?_⟩
    rw [show ((ln b n : Int) - 1) / 2 = (((ln b n - 1) / 2 : Nat) : Int) by omega]
    refine use_pow hb2 (by omega) ⟨rfl, ?_⟩
    by_cases c2 : half b n = b ^ ((ln b n - 1) / 2)
    · rw [if_pos (by rw [c2])]
      rw [if_pos c2] at q
      rw [show ((ln b n : Int) - 1) = ((ln b n - 1 : Nat) : Int) by omega]
      refine use_pow hb2 (by omega) ?_
      have hp : 0 < b ^ (ln b n - 1) := Nat.pow_pos (by omega)
      have := q H2 L2
      rw [show ((b ^ (ln b n - 1) - 1 : Nat) : Int) = ((b ^ (ln b n - 1) : Nat) : Int) - 1 by omega] at this
      exact ⟨_, rfl, this⟩
    · rw [if_neg (vi_ne c2)]
      rw [if_neg c2] at q
      have h2 := own_two hb c1
      have hp : 0 < half b n := by
        have := (hf_half (n := n) hb).2.2
        omega
      rw [show ((half b n : Int) - 1) = ((half b n - 1 : Nat) : Int) by omega]
      exact use_mir L2 hb hb2 (by omega) (by omega) q
theorem rd_at_least (h : sp_at_least K C vs H Q E) : t_at_least K C E (fin Q) (start ["number", "base", "size", "half"] vs) H := by
  obtain ⟨y, x, rfl, nb⟩ := h
  show t_at_least K C E (fin Q) [some y, some x, none, none] H
  unfold t_at_least
  walk_at "w"
  refine nb.need fun b e hb hb2 ⟨n, e2, hn, q⟩ => ?_
  subst e
  subst e2
  have hn' : n + 1 < lim := by have := lim1_lim hn; omega
  have L0 := Led.refl H
  have hl : ln b n ≤ 700 := figs_len_lim hb (Nat.lt_of_succ_lt hn')
  have hlp : 0 < ln b n := ln_pos
  have hh : half b n + 1 < lim := Nat.lt_of_le_of_lt (Nat.succ_le_succ half_lt) hn'
  walk_at "w"
  refine use_half L0 hb hb2 (by omega) fun p1 H1 L1 => unp (L1.stI 0 rfl) ?_
  have L1 := L1.none
  walk_at "w"
  refine use_mir L1 hb hb2 (by omega) (by omega) fun H2 L2 => ?_
  walk_at "w"
  unfold highM at q
  by_cases c1 : own b n < n
  · rw [if_pos c1] at q
    rw [if_pos (Int.ofNat_lt.mpr c1)]
    exact use_mir L2 hb hb2 hh (by omega) q
  · rw [if_neg c1] at q
    rw [if_neg (fun z => c1 (Int.ofNat_lt.mp z))]
    exact use_mir (h := half b n) L2 hb hb2 (by omega) (by omega) q
theorem rd_many_of_size (h : sp_many_of_size K C vs H Q E) : t_many_of_size K C E (fin Q) (start ["size", "base"] vs) H := by
  obtain ⟨s, b, rfl, hs, hs2, hb, hb2, q⟩ := h
  show t_many_of_size K C E (fin Q) [some (.int s), some (.int b)] H
  unfold t_many_of_size
  walk_at "w"
  refine ⟨by decide, ?_⟩
  rw [show ((s : Int) - 1) / 2 = (((s - 1) / 2 : Nat) : Int) by omega]
  refine use_pow hb2 (by omega) ⟨_, rfl, Or.inl ⟨by omega, by omega⟩, ?_⟩
  have e : ((ofSize b s : Nat) : Int) = ((b : Int) - 1) * ((b ^ ((s - 1) / 2) : Nat) : Int) := by
    unfold ofSize
    rw [Int.natCast_mul, Int.natCast_sub (by omega)]
    rfl
  rw [e] at q
  exact q
theorem use_size {s b : Nat} (hs : 1 ≤ s) (hs2 : s ≤ 100000) (hb : 2 ≤ b) (hb2 : b ≤ 36) (q : Q (.int (ofSize b s : Nat)) H) : sp_many_of_size K C [.int s, .int b] H Q E := ⟨s, b, rfl, hs, hs2, hb, hb2, q⟩
theorem half_pos {b n : Nat} (hb : 2 ≤ b) (hn : 0 < n) : 0 < half b n := by
  rcases (hf_half (n := n) hb).2.2 with h | h
  · exact h
  · unfold half
    rw [h]
    simpa using hn
theorem rd_many_to (h : sp_many_to K C vs H Q E) : t_many_to K C E (fin Q) (start ["number", "base", "many", "size", "half", "lesser"] vs) H := by
  obtain ⟨y, x, rfl, nb⟩ := h
  show t_many_to K C E (fin Q) [some y, some x, none, none, none, none] H
  unfold t_many_to
  walk_at "w"
  refine nb.need fun b e hb hb2 ⟨n, e2, hn, q⟩ => ?_
  subst e
  subst e2
  clear nb
  have hn' : n < lim := by have := lim1_lim hn; omega
  have L0 := Led.refl H
  have hl : ln b n ≤ 700 := figs_len_lim hb hn'
  have hlp : 0 < ln b n := ln_pos
  have hh : half b n < lim := Nat.lt_of_le_of_lt half_lt hn'
  rw [← many_cnt hb] at q
  unfold manyF at q
  refine ⟨rfl, ?_⟩
  by_cases c0 : n = 0
  · subst c0
    rw [if_pos (show V.int ((0 : Nat) : Int) = V.int 0 from rfl)]
    exact q H L0
  rw [if_neg (fun z => c0 (by have := V.int.inj z; omega))]
  rw [if_neg c0] at q
  walk_at "w"
  refine use_half L0 hb hb2 hn' fun p1 H1 L1 => unp (L1.stI 0 rfl) ?_
  have L1 := L1.none
  walk_at "w"
  refine ⟨by decide, ?_⟩
  rw [show ((ln b n : Int) - 1) / 2 = (((ln b n - 1) / 2 : Nat) : Int) by omega]
  refine use_pow hb2 (by omega) ?_
  walk_at "w"
  refine use_mir L1 hb hb2 hh (by omega) fun H2 L2 => ?_
  walk_at "w"
  refine ⟨1, ln b n, ⟨rfl, rfl⟩, ⟨by omega, by omega, by omega, by omega⟩, fun P hP => ?_⟩
  rw [show ((ln b n : Int) - 1).toNat = ln b n - 1 by omega]
  refine lc_r L2 hP (fun i => nints ((List.range i).map fun k => ofSize b (k + 1))) rfl ?_ ?_
  · intro i H3 hi L3
    refine ⟨rfl, ?_⟩
    walk_at "w"
    rw [show (1 : Int) + (i : Int) = ((i + 1 : Nat) : Int) by omega]
    refine use_size (by omega) (by omega) hb hb2 (lc_y L3 ?_ ?_)
    · simp [nints, List.range_succ]
    · rw [nints_len, List.length_map, List.length_range, sizeLine_eq]
      omega
  · intro H3 L3
    refine ⟨_, L3.sqI 0 rfl, ?_⟩
    have e1 : ∀ m, (((List.range m).map fun k => ofSize b (k + 1)).map fun (d : Nat) => (d : Int)).sum = ((below b (m + 1) : Nat) : Int) := by
      intro m
      induction m with
      | zero => rfl
      | succ m ih =>
        rw [List.range_succ, List.map_append, List.map_append, List.sum_append, ih, below_succ (s := m + 1) (by omega)]
        simp
    rw [e1, show ln b n - 1 + 1 = ln b n by omega]
    have hp : b ^ ((ln b n - 1) / 2) ≤ half b n := hf_low hb (hf_half hb) (half_pos hb (by omega))
    have := q H3 L3.none
    have e2 : (((half b n - b ^ ((ln b n - 1) / 2) + if own b n ≤ n then 1 else 0) + below b (ln b n) : Nat) : Int) = ((half b n : Int) - ((b ^ ((ln b n - 1) / 2) : Nat) : Int) + if ((pal b (ln b n) (half b n) : Nat) : Int) ≤ n then 1 else 0) + ((below b (ln b n) : Nat) : Int) := by
      rw [Int.natCast_add, Int.natCast_add, Int.natCast_sub hp]
      by_cases c1 : own b n ≤ n
      · rw [if_pos c1, if_pos (Int.ofNat_le.mpr c1)]
        rfl
      · rw [if_neg c1, if_neg (fun z => c1 (Int.ofNat_le.mp z))]
        rfl
    rw [e2] at this
    exact this
theorem at_bound {b s left n : Nat} (hb : 2 ≤ b) (hb2 : b ≤ 36) (hs : 1 ≤ s) (h : left + 1 + below b s = n) (hl : left < ofSize b s) : b ^ ((s - 1) / 2) + left ≤ 4 * n + 1 ∧ b ^ s ≤ 50000 * (n + 1) * (n + 1) := by
  have h1 : b ^ ((s - 1) / 2) ≤ 3 * n + 1 := by
    by_cases c : s = 1
    · subst c
      simp
    · have e : below b s = below b (s - 1) + ofSize b (s - 1) := by
        have := below_succ (b := b) (s := s - 1) (by omega)
        rwa [show s - 1 + 1 = s by omega] at this
      have h2 : ofSize b (s - 1) ≤ n := by omega
      have h3 : b ^ ((s - 1) / 2) ≤ b * b ^ ((s - 1 - 1) / 2) := by
        rw [← Nat.pow_succ']
        exact Nat.pow_le_pow_right (by omega) (by omega)
      have h4 : b * b ^ ((s - 1 - 1) / 2) ≤ 2 * ofSize b (s - 1) := by
        unfold ofSize
        rw [← Nat.mul_assoc]
        exact Nat.mul_le_mul_right _ (by omega)
      omega
  refine ⟨by omega, ?_⟩
  have h5 : b ^ s ≤ (36 * (3 * n + 1)) * (36 * (3 * n + 1)) := by
    have h6 : b ^ s ≤ (b * b ^ ((s - 1) / 2)) * (b * b ^ ((s - 1) / 2)) := by
      rw [← Nat.pow_succ', ← Nat.pow_add]
      exact Nat.pow_le_pow_right (by omega) (by omega)
    have h7 : b * b ^ ((s - 1) / 2) ≤ 36 * (3 * n + 1) := Nat.mul_le_mul hb2 h1
    exact Nat.le_trans h6 (Nat.mul_le_mul h7 h7)
  have h8 : 36 * (3 * n + 1) ≤ 108 * (n + 1) := by omega
  have h9 := Nat.mul_le_mul h8 h8
  have h10 : 108 * (n + 1) * (108 * (n + 1)) = 11664 * ((n + 1) * (n + 1)) := by
    rw [Nat.mul_mul_mul_comm]
  rw [Nat.mul_assoc]
  omega
theorem rd_mirrored_at (h : sp_mirrored_at K C vs H Q E) : t_mirrored_at K C E (fin Q) (start ["place", "base", "left", "size"] vs) H := by
  obtain ⟨y, x, rfl, nb⟩ := h
  show t_mirrored_at K C E (fin Q) [some y, some x, none, none] H
  unfold t_mirrored_at
  walk_at "w"
  refine nb.need fun b e hb hb2 ⟨n, e2, hn, q⟩ => ?_
  subst e
  subst e2
  clear nb
  have hn' : n < lim := by have := lim1_lim hn; omega
  have L0 := Led.refl H
  refine ⟨rfl, ?_⟩
  by_cases c0 : n = 0
  · subst c0
    rw [if_pos (show V.int ((0 : Nat) : Int) = V.int 0 from rfl)]
    exact q H 0 (mir_zero hb) rfl (by omega) L0
  rw [if_neg (fun z => c0 (by have := V.int.inj z; omega))]
  walk_at "w"
  refine whl (fun m σ H1 => ∃ l s : Nat, m = l ∧ 1 ≤ s ∧ l + 1 + below b s = n ∧ H1 = H ∧ σ = [some (.int n), some (.int b), some (.int l), some (.int s)]) (n - 1) ⟨n - 1, 1, rfl, by decide, by show n - 1 + 1 + 0 = n; omega, rfl, by rw [show ((n : Int) - 1) = ((n - 1 : Nat) : Int) by omega]; rfl⟩ ?_
  rintro N hN m σ H1 ⟨l, s, em, hs, e, rfl, rfl⟩
  have em := em.symm
  subst em
  have hs2 : s ≤ 1402 := below_size hb hs (show below b s ≤ n by omega) hn'
  walk_at "w"
  refine use_size hs (by omega) hb hb2 ?_
  walk_at "w"
  by_cases hc : ofSize b s ≤ l
  · rw [if_pos (Int.ofNat_le.mpr hc)]
    refine whb ?_
    walk_at "w"
    refine use_size hs (by omega) hb hb2 ?_
    walk_at "w"
    have hp := ofSize_pos (b := b) (s := s) hb
    refine ⟨l - ofSize b s, by omega, hN _ _ _ ⟨l - ofSize b s, s + 1, rfl, by omega, ?_, rfl, ?_⟩⟩
    · rw [below_succ hs]
      omega
    · rw [Int.natCast_sub hc]
      rfl
  · rw [if_neg (fun z => hc (Int.ofNat_le.mp z))]
    refine ⟨by decide, ?_⟩
    rw [show ((s : Int) - 1) / 2 = (((s - 1) / 2 : Nat) : Int) by omega]
    refine use_pow hb2 (by omega) ⟨_, rfl, ?_⟩
    have hc' : l < ofSize b s := by omega
    obtain ⟨b1, b2⟩ := at_bound hb hb2 hs e hc'
    obtain ⟨a1, a2, a3, a4⟩ := at_spec hb hs hc'
    have hl1 := lim1_lim hn
    refine use_mir (h := b ^ ((s - 1) / 2) + l) L0 hb hb2 (by omega) (by omega) fun H2 L2 => ?_
    exact q H2 _ a1 (by rw [a2]; exact e) (Nat.le_trans (Nat.le_of_lt a4) b2) L2
theorem casts_inj : ∀ {l m : List Nat}, (l.map fun (d : Nat) => (d : Int)) = (m.map fun (d : Nat) => (d : Int)) → l = m
  | [], [], _ => rfl
  | [], _ :: _, h => by cases h
  | _ :: _, [], h => by cases h
  | x :: l, y :: m, h => by
    rw [List.map_cons, List.map_cons, List.cons.injEq] at h
    rw [Int.ofNat.inj h.1, casts_inj h.2]
theorem rd_is_mirrored (h : sp_is_mirrored K C vs H Q E) : t_is_mirrored K C E (fin Q) (start ["thing", "base", "some"] vs) H := by
  obtain ⟨y, x, rfl, nb⟩ := h
  show t_is_mirrored K C E (fin Q) [some y, some x, none] H
  unfold t_is_mirrored
  walk_at "w"
  refine nb.need fun b e hb hb2 ⟨hk, hl, q⟩ => ?_
  subst e
  clear nb
  refine ⟨y, rfl, hk, _, rfl, ?_⟩
  cases y with
  | int i =>
    simp only [isInt, Bool.not_true, Bool.false_eq_true, if_false]
    walk_at "w"
    by_cases c : i < 0
    · rw [if_pos c]
      have e : mirV b (.int i) = false := by
        show (decide (0 ≤ i) && _) = false
        rw [decide_eq_false (by omega)]
        rfl
      rw [e] at q
      exact q H (Led.refl H)
    · rw [if_neg c]
      obtain ⟨n, rfl⟩ := Int.eq_ofNat_of_zero_le (show 0 ≤ i by omega)
      have hn : n < lim := by have : (n : Int) < lim := hl; omega
      refine ⟨n, b, rfl, hb, hb2, hn, fun p1 H1 L1 => ?_⟩
      walk_at "w"
      refine ⟨_, L1.sqI 0 rfl, fun p2 hp2 => ?_⟩
      have L2 := L1.new (o := .lst (nints (figs b n)).reverse) hp2
      generalize upd _ _ _ = H2 at L2 ⊢
      have e2 : (nints (figs b n)).reverse = nints (figs b n).reverse := by simp [nints]
      rw [e2] at L2
      refine ⟨_, L2.sqI 1 rfl, _, L2.sqI 0 rfl, ?_⟩
      have e3 : decide (((figs b n).map fun (d : Nat) => (d : Int)) = ((figs b n).reverse.map fun (d : Nat) => (d : Int))) = mirV b (.int n) := by
        show _ = (decide ((0 : Int) ≤ (n : Int)) && mir b ((n : Int).toNat))
        rw [decide_eq_true (Int.natCast_nonneg n), Bool.true_and, show (n : Int).toNat = n by omega]
        unfold mir
        apply decide_eq_decide.mpr
        constructor
        · intro h
          exact casts_inj h
        · intro h
          rw [← h]
      rw [e3]
      exact q _ L2.none
  | _ => exact q H (Led.refl H)
theorem rd_place_of (h : sp_place_of K C vs H Q E) : t_place_of K C E (fin Q) (start ["thing", "base"] vs) H := by
  obtain ⟨y, x, rfl, hx, r, nb⟩ := h
  show t_place_of K C E (fin Q) [some y, some x] H
  unfold t_place_of
  walk_at "w"
  refine ⟨y, x, rfl, hx, r, fun b e hb hb2 => ?_⟩
  obtain ⟨hk, hl, r2, q⟩ := nb b e hb hb2
  refine ⟨hk, ?_, fun H1 L1 => ⟨_, rfl, ?_⟩⟩
  · cases y with
    | int i =>
      have h1 : i < lim1 := hl
      have h2 : (lim1 : Int) < lim := by decide +kernel
      show i < lim
      omega
    | _ => trivial
  · cases c : mirV b y with
    | false => exact r2 c H1 L1
    | true =>
      cases y with
      | int i =>
        have c : (decide (0 ≤ i) && mir b i.toNat) = true := c
        rw [Bool.and_eq_true, decide_eq_true_eq] at c
        obtain ⟨n, rfl⟩ := Int.eq_ofNat_of_zero_le c.1
        rw [show (n : Int).toNat = n by omega] at c
        subst e
        rw [if_neg (by decide)]
        have hn : n < lim1 := by have : (n : Int) < lim1 := hl; omega
        exact ⟨_, _, rfl, NB.good hb hb2 ⟨n, rfl, hn, fun H2 M2 => q n rfl c.2 H2 (L1.step0 M2)⟩⟩
      | _ => cases c
end
end Mi

namespace Mi
open PySem PySem.Spec PyProof.Rows L2
local macro_rules
  | `(tactic| walk_at "w") => `(tactic| try simp only [a_seq, a_next, a_tru, tru_bl, b_isB, b_notB, b_mulS, b_addS, b_intS, b_lstRg, b_rg1, b_rg2, a_to, isi_ii, isi_ib, isi_bi, isi_bb, a_asg, a_name, a_var, a_c, a_op, a_un, a_rI, a_rI0, a_rU, a_ret, a_retN, a_ifS, a_drop, a_aug, a_ipI, a_test, a_B, a_and, a_or, a_not, a_andV, a_orV, a_notV, a_ifE, a_nil, a_cons, a_lst, a_tup, a_cb, a_go, a_bm, a_bm0, a_sl, a_po, a_pn,
      a_gsub, a_gnil, a_gcons, a_gtup, a_chain, a_eq, a_ne, a_yes, a_revL, a_slL, a_ixL, a_ixT, a_append, a_setL, a_cat, a_for, a_lc, a_iL, a_iT, a_iR1, a_iR2, a_iE, a_iZ, a_iS, b_lenL, b_int1b, b_int1i, b_listOf, b_max2, b_min2, b_sum, b_rep, b_eqLI0, b_eqLI1, b_isN, b_notN, b_listEnum, b_raise0,
      List.getElem?_cons_zero, List.getElem?_cons_succ, List.set_cons_zero, List.set_cons_succ, Option.some.injEq, V.int.injEq, V.ref.injEq, V.bl.injEq, V.str.injEq, List.cons.injEq, and_true, true_and, exists_eq_left', exists_eq_left, exists_eq_right, exists_eq_right', exists_and_left, exists_eq', exists_eq, decide_eq_true_eq, scal_ii, scal_bb, scal_ss, wipe, ↓reduceIte, reduceCtorEq,
      Bool.not_eq_true', Bool.false_eq_true, not_false_eq_true, not_true_eq_false, if_true, if_false, decide_eq_false_iff_not, List.length_cons, List.length_nil, Nat.zero_add, CDiv, CMul, CPow])
local macro_rules
  | `(tactic| walk_at "z") => `(tactic| first | omega | (rw [sizeLine_eq]; simp only [List.length_append, List.length_map, List.length_cons, List.length_nil, List.length_reverse, nints]; omega) | decide | (simp only [List.length_append, List.length_map, List.length_cons, List.length_nil]; omega))
section
variable {K : PySem.W.Frag} {C : Str → Addr} {H B : Hp} {Q : VK} {E : XK} {F : List (Addr × HO)} {vs : List V}
theorem sort2 {x0 x1 : Nat} {l : List Int} (h : l.Perm [(x0 : Int), (x1 : Int)]) (hs : l.Pairwise (· ≤ ·)) : ∃ lo hi : Nat, l = [(lo : Int), (hi : Int)] ∧ lo ≤ hi ∧ ((lo = x0 ∧ hi = x1) ∨ (lo = x1 ∧ hi = x0)) := by
  have hl := h.length_eq
  match l, hl with
  | [u, v], _ =>
    have huv : u ≤ v := by
      rw [List.pairwise_cons] at hs
      exact hs.1 v (by simp)
    have hu : u = x0 ∨ u = x1 := by
      have := h.mem_iff.mp (show u ∈ [u, v] by simp)
      simpa using this
    have hv : v = x0 ∨ v = x1 := by
      have := h.mem_iff.mp (show v ∈ [u, v] by simp)
      simpa using this
    have h0 : x0 = u ∨ (x0 : Int) = v := by
      have := h.mem_iff.mpr (show (x0 : Int) ∈ [(x0 : Int), (x1 : Int)] by simp)
      simpa using this
    have h1 : x1 = u ∨ (x1 : Int) = v := by
      have := h.mem_iff.mpr (show (x1 : Int) ∈ [(x0 : Int), (x1 : Int)] by simp)
      simpa using this
    by_cases c : x0 ≤ x1
    · exact ⟨x0, x1, by rw [show u = (x0 : Int) by omega, show v = (x1 : Int) by omega], c, .inl ⟨rfl, rfl⟩⟩
    · exact ⟨x1, x0, by rw [show u = (x1 : Int) by omega, show v = (x0 : Int) by omega], by omega, .inr ⟨rfl, rfl⟩⟩
theorem twos_count {b n m : Nat} (h : m ∈ twos b n) : (twos b n).count m = 1 := by
  have nd : (twos b n).Nodup := by
    have pw : (twos b n).Pairwise (fun a b => b < a) := fl_fall
    exact pw.imp fun h => Nat.ne_of_gt h
  rw [nd.count, if_pos h]
theorem rd__law_right (h : sp__law_right K C vs H Q E) : t__law_right K C E (fin Q) (start ["number", "base", "ways", "way", "half", "one", "further"] vs) H := by
  obtain ⟨n, b, rfl, hb, hb2, hn, q⟩ := h
  show t__law_right K C E (fin Q) [some (.int n), some (.int b), none, none, none, none, none] H
  unfold t__law_right
  have hn2 : n < lim := Nat.lt_of_le_of_lt hn (by decide +kernel)
  walk_at "w"
  refine use_two (Led.refl H) hb hb2 hn fun p as H1 hl L1 => ?_
  rw [List.append_nil] at L1
  have L1e : Led H [] H1 := L1.none
  have own1 := fun x hx => (L1.own x hx).1
  have hp1 : H1 p = some (.lst (as.map V.ref)) := own1 (p, _) List.mem_cons_self
  have pr1 : ∀ x ∈ prF as (twos b n) n, H1 x.1 = some x.2 := fun x hx => own1 x (List.mem_cons_of_mem _ hx)
  clear L1
  have q : ∀ H', Led H1 [] H' → Q (.bl true) H' := fun H' M => q H' (L1e.step0 M)
  walk_at "w"
  refine ⟨_, .inl (SqL.of hp1), ?_⟩
  refine use_many2 (Led.refl H1) hb hb2 hn fun H2 L2 => ⟨rfl, ?_⟩
  rw [if_neg (by rw [List.length_map, hl]; exact fun z => z rfl)]
  refine use_firstD L2 hb hb2 hn fun x0 H3 L3 dx _ => ?_
  walk_at "w"
  refine ⟨by decide, fun p4 hp4 => ?_⟩
  have L4 := L3.new (o := .lst [V.non]) hp4
  have dx := (Led.refl H3).new (o := .lst [V.non]) hp4 |>.dp dx
  generalize upd _ _ _ = H4 at L4 dx ⊢
  refine ⟨_, L4.base _ _ hp1, _, L4.get 0 rfl, by rw [List.length_map, sizeLine_eq, hl]; have := twos_len (b := b) (n := n); simp only [List.length_cons, List.length_nil]; omega, fun p5 hp5 => ?_⟩
  have L5 := L4.new (o := .lst (as.map V.ref ++ [V.non])) hp5
  have dx := (Led.refl H4).new (o := .lst (as.map V.ref ++ [V.non])) hp5 |>.dp dx
  generalize upd _ _ _ = H5 at L5 dx ⊢
  obtain ⟨y, hy, dy⟩ := first_at (K := K) (n := n) hl
  refine ⟨_, L5.sqI 0 rfl, y, hy, _, _, dx, dy H5 (fun x hx => L5.base _ _ (pr1 x hx)), firstD_shaped _ _, firstD_shaped _ _, _, rfl, ?_⟩
  rw [firstD_eqv, if_neg (by decide)]
  have L6 := L5.none
  clear L5 L4 L3 L2 dx dy
  refine ⟨⟨_, SqL.of (L6.base _ _ hp1)⟩, ?_⟩
  refine for_l (fun i σ H' => Led H1 [] H' ∧ ∃ y3, σ = [some (.int n), some (.int b), some (.ref p), y3, none, none, none]) ⟨L6, _, rfl⟩ (fun i σ H' _ h => SqL.of (h.1.base _ _ hp1)) ?_ ?_
  · rintro N hN i x σ H7 hx ⟨L7, y3, rfl⟩
    obtain ⟨w, m, rfl, hw, hm, hin⟩ := prF_get (n := n) hl hx
    have hmm := twos_mem.mp (List.mem_of_getElem? hm)
    have hw7 : H7 w = some (.lst [.int (m : Nat), .int ((n - m : Nat) : Int)]) := L7.base _ _ (pr1 _ hin)
    walk_at "w"
    have hs7 : SqL K H7 w [V.int (m : Nat), V.int ((n - m : Nat) : Int)] := SqL.of hw7
    refine ⟨_, .inl hs7, ?_⟩
    rw [if_neg (fun z => z rfl)]
    refine ⟨[(m : Int), ((n - m : Nat) : Int)], hs7, ?_⟩
    rw [if_neg (by simp only [List.sum_cons, List.sum_nil]; omega)]
    refine ⟨_, hs7, _, rfl, _, rfl, ?_⟩
    rw [if_neg (by omega)]
    refine ⟨_, hs7, _, rfl, _, hs7, _, rfl, _, rfl, _, rfl, ?_⟩
    rw [if_neg (by omega)]
    refine ⟨_, hs7, _, rfl, use_is L7 hb hb2 (by omega) fun H8 L8 => ⟨_, rfl, ?_⟩⟩
    rw [hmm.2.2.2.1, if_neg (fun z => z rfl)]
    have hs8 : SqL K H8 w [V.int (m : Nat), V.int ((n - m : Nat) : Int)] := SqL.of (L8.base _ _ (pr1 _ hin))
    refine ⟨_, hs8, _, rfl, use_is L8 hb hb2 (by omega) fun H9 L9 => ⟨_, rfl, ?_⟩⟩
    rw [hmm.2.2.2.2, if_neg (fun z => z rfl)]
    exact hN _ _ _ ⟨L9, _, rfl⟩
  · rintro σ H7 ⟨L7, y3, rfl⟩
    walk_at "w"
    refine ⟨_, SqL.of (L7.base _ _ hp1), fun p8 hp8 => ⟨_, _, ⟨rfl, rfl⟩, ?_⟩⟩
    rw [show cutV (as.map V.ref) (some 1) none = (as.map V.ref).drop 1 from cut_from _ 1]
    have L8 := L7.new (o := .lst ((as.map V.ref).drop 1)) hp8
    generalize upd _ _ _ = H8 at L8 ⊢
    refine ⟨_, SqL.of (L8.base _ _ hp1), _, L8.sqI 0 rfl, fun P hP => ?_⟩
    refine lc_z L8 hP (fun H' L' => ⟨SqL.of (L'.base _ _ hp1), L'.sqI 0 rfl⟩) (fun _ => []) rfl ?_ ?_
    · intro i x y H9 hx hy L9
      refine ⟨rfl, ?_⟩
      rw [List.getElem?_drop] at hy
      obtain ⟨w1, m1, rfl, hw1, hm1, hin1⟩ := prF_get (n := n) hl hx
      obtain ⟨w2, m2, rfl, hw2, hm2, hin2⟩ := prF_get (n := n) hl hy
      have pw := List.pairwise_iff_getElem.mp (show (twos b n).Pairwise (fun a b => b < a) from fl_fall)
      have lt : m2 < m1 := by
        obtain ⟨h1, e1⟩ := List.getElem?_eq_some_iff.mp hm1
        obtain ⟨h2, e2⟩ := List.getElem?_eq_some_iff.mp hm2
        have := pw i (1 + i) h1 h2 (by omega)
        rw [e1, e2] at this
        exact this
      walk_at "w"
      refine ⟨_, SqL.of (L9.base _ _ (pr1 _ hin2)), _, rfl, _, SqL.of (L9.base _ _ (pr1 _ hin1)), _, rfl, _, rfl, _, rfl, ?_⟩
      rw [if_neg (by omega)]
      exact L9
    · intro H9 L9
      refine ⟨by decide, fun p10 hp10 => ?_⟩
      have L10 := L9.new (o := .lst []) hp10
      generalize upd _ _ _ = H10 at L10 ⊢
      refine ⟨[], L10.sqI 1 rfl, [], L10.sqI 0 rfl, ?_⟩
      rw [if_neg (fun z => z rfl)]
      refine ⟨by decide, by decide, ?_⟩
      have L11 := L10.none
      by_cases c1 : (n : Int) % 2 = 1
      · rw [if_pos c1]
        exact q _ L11
      rw [if_neg c1]
      by_cases c2 : (n : Int) = 0
      · rw [if_pos c2]
        exact q _ L11
      rw [if_neg c2]
      refine ⟨by decide, fun p11 hp11 => ?_⟩
      rw [show (n : Int) / 2 = ((n / 2 : Nat) : Int) by omega]
      have L12 := L11.new (o := .lst [V.int (n / 2 : Nat), V.int (n / 2 : Nat)]) hp11
      generalize upd _ _ _ = H12 at L12 ⊢
      have dall := dp_pairs (K := K) (H := H12) n as (twos b n) hl fun x hx => L12.base _ _ (pr1 x hx)
      refine ⟨_, _, .lst (L12.sqI 0 rfl) (.cons (.int _) (.cons (.int _) .nil)), .lst (SqL.of (L12.base _ _ hp1)) dall, rfl, shaped_pairs n _, ?_⟩
      rw [pairs_any]
      refine use_is L12 hb hb2 (by omega) fun H13 L13 => ⟨rfl, ?_⟩
      have e : decide (V.bl (decide (n / 2 ∈ twos b n ∧ n - n / 2 = n / 2)) = V.bl (mir b (n / 2))) = true := by
        apply decide_eq_true
        congr 1
        have eh : n - n / 2 = n / 2 := by omega
        cases em : mir b (n / 2) with
        | true => exact decide_eq_true ⟨twos_mem.mpr ⟨by omega, by omega, by omega, em, by rw [eh]; exact em⟩, eh⟩
        | false =>
          refine decide_eq_false (fun z => ?_)
          have := (twos_mem.mp z.1).2.2.2.1
          rw [em] at this
          cases this
      rw [e]
      exact q _ L13.none
theorem use_lright {n b : Nat} (L : Led B F H) (hb : 2 ≤ b) (hb2 : b ≤ 36) (hn : n ≤ 10000000) (q : ∀ H', Led B F H' → Q (.bl true) H') : sp__law_right K C [.int n, .int b] H Q E :=
  ⟨n, b, rfl, hb, hb2, hn, fun H' M => q H' (L.step0 M)⟩
theorem rd_law (h : sp_law K C vs H Q E) : t_law K C E (fin Q) (start ["script", "k", "cell", "hand", "base", "number", "size", "both", "ways", "j"] vs) H := by
  obtain ⟨a, ns, rfl, hS, hns, q⟩ := h
  show t_law K C E (fin Q) [some (.ref a), none, none, none, none, none, none, none, none, none] H
  unfold t_law
  walk_at "w"
  refine ⟨a, ns, 16, rfl, hS, hns, by decide, fun P as cs H1 hl hc L1 => ?_⟩
  refine ⟨P, rfl, ⟨_, L1.sqI 0 rfl⟩, ?_⟩
  refine for_cells hl hc L1 (fun σ H => Led H1 [] H ∧ ∃ y1 y2 y3 y4 y5 y6 y7 y8 y9, σ = [some (.ref a), y1, y2, y3, y4, y5, y6, y7, y8, y9]) ⟨Led.refl _, _, _, _, _, _, _, _, _, _, rfl⟩ (fun σ H p => p.1) ?_ ?_
  · rintro N hN i c σ H2 hi ⟨L2, y1, y2, y3, y4, y5, y6, y7, y8, y9, rfl⟩
    walk_at "w"
    refine use_hand L2 (by omega) fun hand H3 d m hm L3 => ?_
    walk_at "w"
    refine use_base L3 0 rfl hm fun H4 d4 m4 b hm4 hb hb2 L4 => ?_
    walk_at "w"
    refine use_draw (l := 1500) L4 0 rfl hm4 (by decide) (by decide) fun H5 d5 m5 g5 hm5 hg5 L5 => ?_
    walk_at "w"
    refine cut_ (fun σ H => ∃ (d m g : Nat), m < 2147483587 ∧ g ≤ 1000000 ∧ Led H1 [(hand, .lst [.int d, .int m])] H ∧ σ = [some (.ref a), some (.int (i : Nat)), some (.int c), some (.ref hand), some (.int b), some (.int g), y6, y7, y8, y9]) ?_ ?_
    · intro M hM
      walk_at "w"
      by_cases c1 : (i : Int) < 4
      · rw [if_pos c1]
        refine ⟨by decide, use_number (most := 10 ^ 6) L5 0 rfl hm5 hb hb2 (by decide +kernel) fun H6 d6 m6 g hm6 hg L6 => ?_⟩
        exact hM _ _ ⟨_, _, _, hm6, hg, L6, rfl⟩
      · rw [if_neg c1]
        exact hM _ _ ⟨_, _, _, hm5, by omega, L5, rfl⟩
    · rintro σ H6 ⟨d6, m6, g6, hm6, hg6, L6, rfl⟩
      walk_at "w"
      refine use_lright L6 hb hb2 (by omega) fun H7 L7 => ?_
      walk_at "w"
      have e6 : (10 : Int) ^ Int.toNat 6 = ((1000000 : Nat) : Int) := by decide
      rw [e6]
      refine ⟨by decide, use_figs L7 hb hb2 (by decide +kernel) fun p8 H8 L8 => ⟨_, rfl, _, .inl (L8.sqI 0 rfl), ?_⟩⟩
      rw [show (1000 : Int) = ((1000 : Nat) : Int) from rfl]
      refine use_figs L8 hb hb2 (by decide +kernel) fun p9 H9 L9 => ⟨_, rfl, _, .inl (L9.sqI 0 rfl), by decide, fun p10 hp10 => ?_⟩
      have hl6 := ln6 hb hb2
      obtain ⟨sz, hsz, hs0, hs1, hpw⟩ : ∃ sz : Nat, atI [V.int (((nints (figs b 1000000)).length : Int) - 1), V.int (if ((nints (figs b 1000)).length : Int) < 3 then ((nints (figs b 1000)).length : Int) else 3)] (if 3 < (i : Int) then 1 else 0) = some (.int (sz : Nat)) ∧ 0 < sz ∧ sz ≤ 20 ∧ b ^ sz ≤ 1000000 := by
        rw [nints_len, nints_len]
        by_cases c : 3 < (i : Int)
        · rw [if_pos c]
          have hp : 0 < (figs b 1000).length := figs_len_pos
          by_cases c2 : ((figs b 1000).length : Int) < 3
          · rw [if_pos c2]
            exact ⟨_, rfl, hp, by omega, Nat.le_trans (Nat.pow_le_pow_right (by omega) (show (figs b 1000).length ≤ 3 by omega)) (Nat.le_trans (Nat.pow_le_pow_left hb2 3) (by decide))⟩
          · rw [if_neg c2]
            exact ⟨3, rfl, by decide, by decide, Nat.le_trans (Nat.pow_le_pow_left hb2 3) (by decide)⟩
        · rw [if_neg c]
          refine ⟨ln b 1000000 - 1, ?_, by omega, by omega, size6 hb (Nat.le_refl _)⟩
          rw [show (((figs b 1000000).length : Int) - 1) = ((ln b 1000000 - 1 : Nat) : Int) by show ((ln b 1000000 : Int) - 1) = _; omega]
          rfl
      have L10 := L9.new (o := .lst [V.int (((nints (figs b 1000000)).length : Int) - 1), V.int (if ((nints (figs b 1000)).length : Int) < 3 then ((nints (figs b 1000)).length : Int) else 3)]) hp10
      generalize upd _ _ _ = H10 at L10 ⊢
      refine ⟨_, L10.sqI 0 rfl, _, hsz, by decide, by decide, fun P11 hP11 => ?_⟩
      refine lc_both (sz := sz) L10 hP11 3 rfl hm6 hb hb2 hs0 (by omega) (fun _ => rfl) (fun _ => rfl) (fun _ _ _ h => ⟨_, rfl, h⟩) (fun _ => rfl) (by decide) fun H11 d11 m11 ls hls hall hm11 L11 => ?_
      obtain ⟨x0, x1, rfl⟩ : ∃ x0 x1, ls = [x0, x1] := by
        match ls, hls with
        | [x0, x1], _ => exact ⟨x0, x1, rfl⟩
      have h0 := hall x0 (by simp)
      have h1 := hall x1 (by simp)
      refine ⟨P11, [(x0 : Int), (x1 : Int)], rfl, L11.sqI 0 rfl, fun ns' p12 hperm hsort hp12 => ?_⟩
      obtain ⟨lo, hi, rfl, hle, hcase⟩ := sort2 hperm hsort
      have hM : mir b hi = true ∧ 0 < hi ∧ hi < b ^ sz := by rcases hcase with z | z <;> (rw [z.2]; assumption)
      have hm : mir b lo = true ∧ 0 < lo ∧ lo < b ^ sz := by rcases hcase with z | z <;> (rw [z.1]; assumption)
      have L12 := L11.new (o := .lst ([(lo : Int), (hi : Int)].map V.int)) hp12
      generalize upd _ _ _ = H12 at L12 ⊢
      refine ⟨_, rfl, _, L12.sqI 0 rfl, fun p13 hp13 => ?_⟩
      have L13 := L12.new (o := .lst ([(lo : Int), (hi : Int)].map V.int).reverse) hp13
      generalize upd _ _ _ = H13 at L13 ⊢
      have hb13 : H13 p13 = some (.lst [V.int (hi : Nat), V.int (lo : Nat)]) := L13.get 0 rfl
      have L14 : Led H1 [] H13 := L13.none
      clear L13 L12 L11 L10 L9 L8 L7 L6 L5 L4 L3 L2
      have es : [(hi : Int), (lo : Int)].sum = ((hi + lo : Nat) : Int) := by simp
      refine ⟨[(hi : Int), (lo : Int)], SqL.of hb13, by decide, ?_⟩
      rw [es]
      by_cases c : ((hi + lo : Nat) : Int) ≤ ((1000000 : Nat) : Int)
      · rw [if_pos c]
        have B13 := Led.refl H13
        refine ⟨[(hi : Int), (lo : Int)], SqL.of hb13, ?_⟩
        rw [es]
        refine use_two B13 hb hb2 (by omega) fun p14 as H14 hal L15 => ?_
        rw [List.append_nil] at L15
        have hb14 := L15.base _ _ hb13
        have hin : hi ∈ twos b (hi + lo) := twos_mem.mpr ⟨by omega, by omega, by omega, hM.1, by rw [show hi + lo - hi = lo by omega]; exact hm.1⟩
        have dall := dp_pairs (K := K) (H := H14) (hi + lo) as (twos b (hi + lo)) hal fun x hx => (L15.own x (List.mem_cons_of_mem _ hx)).1
        refine ⟨.inl ⟨rfl, _, L15.sqI 0 rfl⟩, p14, _, _, _, rfl, rfl, .lst (L15.sqI 0 rfl) dall, .lst (SqL.of hb14) (.cons (.int _) (.cons (.int _) .nil)), shaped_pairs _ _, rfl, ?_⟩
        rw [pairs_count _ _ _ _ (by omega), twos_count hin]
        refine ⟨rfl, ?_⟩
        rw [if_neg (fun z => z rfl)]
        refine ⟨[(hi : Int), (lo : Int)], SqL.of hb14, ?_⟩
        rw [es]
        refine use_lright L15 hb hb2 (by omega) fun H16 L16 => ⟨_, rfl, ?_⟩
        rw [if_neg (fun z => nomatch z)]
        refine use_two L16 hb hb2 (by omega) fun p17 as2 H17 hal2 L17 => ?_
        refine use_two L17 hb hb2 (by omega) fun p18 as3 H18 hal3 L18 => ?_
        have hgo : ∀ (p : Addr) (as : List Addr) (n : Nat), as.length = (twos b n).length → (∀ x ∈ (p, HO.lst (as.map V.ref)) :: prF as (twos b n) n, H18 x.1 = some x.2) → Dp K H18 (.ref p) (.list ((twos b n).map fun m => pairD n m)) := fun p as n hl hx =>
          .lst (SqL.of (hx _ List.mem_cons_self)) (dp_pairs n as _ hl fun x h => hx x (List.mem_cons_of_mem _ h))
        have own18 := fun x hx => (L18.own x hx).1
        refine ⟨_, _, hgo p17 as2 g6 hal2 fun x hx => own18 x (List.mem_append.mpr (.inr (List.mem_append.mpr (.inl hx)))), hgo p18 as3 g6 hal3 fun x hx => own18 x (List.mem_append.mpr (.inl hx)), shaped_pairs _ _, shaped_pairs _ _, _, rfl, ?_⟩
        rw [SeqAt.eqv_refl _ (SeqAt.canLay_of_shaped (shaped_pairs _ _)), if_neg (by decide)]
        have hb18 := L18.base _ _ hb13
        refine ⟨[(hi : Int), (lo : Int)], SqL.of hb18, ?_⟩
        rw [es]
        refine use_two L18 hb hb2 (by omega) fun p19 as4 H19 hal4 L19 => ?_
        have own19 := fun x hx => (L19.own x hx).1
        have hgo : ∀ (p : Addr) (as : List Addr) (n : Nat), as.length = (twos b n).length → (∀ x ∈ (p, HO.lst (as.map V.ref)) :: prF as (twos b n) n, H19 x.1 = some x.2) → Dp K H19 (.ref p) (.list ((twos b n).map fun m => pairD n m)) := fun p as n hl hx =>
          .lst (SqL.of (hx _ List.mem_cons_self)) (dp_pairs n as _ hl fun x h => hx x (List.mem_cons_of_mem _ h))
        refine ⟨_, _, hgo p14 as _ hal fun x hx => own19 x ?_, hgo p19 as4 _ hal4 fun x hx => own19 x (List.mem_append.mpr (.inl hx)), shaped_pairs _ _, shaped_pairs _ _, _, rfl, ?_⟩
        · exact List.mem_append.mpr (.inr (List.mem_append.mpr (.inr (List.mem_append.mpr (.inr hx)))))
        rw [SeqAt.eqv_refl _ (SeqAt.canLay_of_shaped (shaped_pairs _ _)), if_neg (by decide)]
        exact hN _ _ _ ⟨L14.step0 L19.none, _, _, _, _, _, _, _, _, _, rfl⟩
      · rw [if_neg c]
        exact hN _ _ _ ⟨L14, _, _, _, _, _, _, _, _, _, rfl⟩
  · rintro σ H2 ⟨L2, y1, y2, y3, y4, y5, y6, y7, y8, y9, rfl⟩
    walk_at "w"
    exact q _
end
end Mi

namespace Mi
open PySem PySem.Spec PyProof.Rows L2
def t__law_wide (K : PySem.W.Frag) (C : Str → Addr) (E : XK) : TS :=
  (tSeq (tAsg (tC (.int 0)) (gName 2))
    (tSeq (tFor (iRng1 (tCons (tC (.int 5)) tNil)) (gName 3) (tAsg (tOp (rI0 fun i j => .int (i + j)) (tOp (rI CMul fun i j => .int (i * j)) (tVar 2) (tOp (rI CPow fun i j => .int (i ^ j.toNat)) (tC (.int 10)) (tC (.int 8)))) (tGo (sp__law_draw K C) (fun _ => E0) (tCons (tVar 0) (tCons (tOp (rI CPow fun i j => .int (i ^ j.toNat)) (tC (.int 10)) (tC (.int 8))) tNil)))) (gName 2)))
    (tRet (tOp (rI (fun _ j => 0 < j) fun i j => .int (i % j)) (tVar 2) (tVar 1)))))
def t__law_mirrored (K : PySem.W.Frag) (C : Str → Addr) (E : XK) : TS :=
  (tSeq (tAsg (tOp (rIxL K) (tLst (tCons (tVar 1) (tCons (tCB rMin2 (tCons (tVar 1) (tCons (tC (.int 2)) tNil))) (tCons (tVar 1) tNil)))) (tGo (sp__law_draw K C) (fun _ => E0) (tCons (tVar 0) (tCons (tC (.int 3)) tNil)))) (gName 3))
    (tSeq (tAsg (tOp rCat (tLst (tCons (tOp (rI0 fun i j => .int (i + j)) (tC (.int 1)) (tGo (sp__law_draw K C) (fun _ => E0) (tCons (tVar 0) (tCons (tOp (rI0 fun i j => .int (i - j)) (tVar 1) (tC (.int 1))) tNil)))) tNil)) (tLc (iRng1 (tCons (tOp (rI CDiv fun i j => .int (i / j)) (tOp (rI0 fun i j => .int (i - j)) (tVar 2) (tC (.int 1))) (tC (.int 2))) tNil)) (gName 5) tYes (tGo (sp__law_draw K C) (fun _ => E0) (tCons (tVar 0) (tCons (tVar 3) tNil))) [5])) (gName 4))
    (tRet (tGo (sp__law_value K C) (fun _ => E0) (tCons (tOp rCat (tVar 4) (tRevL K (tSl (rSlL K) (tVar 4) tNoPart (tPart (tOp (rI CDiv fun i j => .int (i / j)) (tVar 2) (tC (.int 2))))))) (tCons (tVar 1) tNil))))))
def t__law_number (K : PySem.W.Frag) (C : Str → Addr) (E : XK) : TS :=
  (tSeq (tAsg (tOp (rI0 fun i j => .int (i + j)) (tC (.int 1)) (tGo (sp__law_draw K C) (fun _ => E0) (tCons (tVar 0) (tCons (tCB (rLenL K) (tCons (tGo (sp__law_figures K C) (fun _ => E0) (tCons (tVar 2) (tCons (tVar 1) tNil))) tNil)) tNil)))) (gName 3))
    (tSeq (tAsg (tGo (sp__law_power K C) (fun _ => E0) (tCons (tVar 1) (tCons (tOp (rI0 fun i j => .int (i - j)) (tVar 3) (tC (.int 1))) tNil))) (gName 4))
    (tSeq (tAsg (tGo (sp__law_draw K C) (fun _ => E0) (tCons (tVar 0) (tCons (tC (.int 7)) tNil))) (gName 5))
    (tSeq (tAsg (tGo (sp__law_wide K C) (fun _ => E0) (tCons (tVar 0) (tCons (tOp (rI CMul fun i j => .int (i * j)) (tVar 4) (tVar 1)) tNil))) (gName 6))
    (Evl.tCut (tIfS (tTest (tOp rEq (tVar 5) (tC (.int 1)))) (tAsg (tOp (rI0 fun i j => .int (i - j)) (tOp (rI0 fun i j => .int (i + j)) (tVar 4) (tGo (sp__law_draw K C) (fun _ => E0) (tCons (tVar 0) (tCons (tC (.int 5)) tNil)))) (tC (.int 2))) (gName 6)) tNext)
    (Evl.tCut (tIfS (tOr (tTest (tOp rEq (tVar 5) (tC (.int 2)))) (tTest (tOp rEq (tVar 5) (tC (.int 3))))) (tAsg (tOp (rI0 fun i j => .int (i - j)) (tOp (rI0 fun i j => .int (i + j)) (tGo (sp__law_mirrored K C) (fun _ => E0) (tCons (tVar 0) (tCons (tVar 1) (tCons (tVar 3) tNil)))) (tGo (sp__law_draw K C) (fun _ => E0) (tCons (tVar 0) (tCons (tC (.int 3)) tNil)))) (tC (.int 1))) (gName 6)) tNext)
    (Evl.tCut (tIfS (tTest (tOp rEq (tVar 5) (tC (.int 4)))) (tAsg (tOp (rI0 fun i j => .int (i - j)) (tOp (rI0 fun i j => .int (i - j)) (tOp (rI CMul fun i j => .int (i * j)) (tVar 4) (tVar 1)) (tC (.int 1))) (tOp (rI CMul fun i j => .int (i * j)) (tGo (sp__law_power K C) (fun _ => E0) (tCons (tVar 1) (tCons (tGo (sp__law_draw K C) (fun _ => E0) (tCons (tVar 0) (tCons (tVar 3) tNil))) tNil))) (tGo (sp__law_draw K C) (fun _ => E0) (tCons (tVar 0) (tCons (tC (.int 2)) tNil))))) (gName 6)) tNext)
    (Evl.tCut (tIfS (tTest (tOp rEq (tVar 5) (tC (.int 5)))) (tAsg (tGo (sp__law_draw K C) (fun _ => E0) (tCons (tVar 0) (tCons (tC (.int 60)) tNil))) (gName 6)) tNext)
    (tRet (tCB rMax2 (tCons (tC (.int 0)) (tCons (tCB rMin2 (tCons (tVar 2) (tCons (tVar 6) tNil))) tNil))))))))))))
end Mi

namespace Mi
open PySem PySem.Spec PyProof.Rows L2
local macro_rules
  | `(tactic| walk_at "w") => `(tactic| try simp only [a_seq, a_next, a_asg, a_name, a_var, a_c, a_op, a_un, a_rI, a_rI0, a_rU, a_ret, a_retN, a_ifS, a_drop, a_aug, a_ipI, a_test, a_B, a_and, a_or, a_not, a_andV, a_orV, a_notV, a_ifE, a_nil, a_cons, a_lst, a_tup, a_cb, a_go, a_bm, a_bm0, a_sl, a_po, a_pn,
      a_gsub, a_gnil, a_gcons, a_gtup, a_chain, a_eq, a_ne, a_yes, a_revL, a_slL, a_ixL, a_ixT, a_append, a_setL, a_cat, a_for, a_lc, a_iL, a_iT, a_iR1, a_iR2, a_iE, a_iZ, a_iS, b_lenL, b_int1b, b_int1i, b_listOf, b_max2, b_min2, b_sum, b_rep, b_eqLI0, b_eqLI1, b_isN, b_notN, b_listEnum, b_raise0,
      List.getElem?_cons_zero, List.getElem?_cons_succ, List.set_cons_zero, List.set_cons_succ, Option.some.injEq, V.int.injEq, V.ref.injEq, V.bl.injEq, V.str.injEq, List.cons.injEq, and_true, true_and, exists_eq_left', exists_eq_left, exists_eq_right, exists_eq_right', exists_and_left, exists_eq', exists_eq, decide_eq_true_eq, scal_ii, scal_bb, scal_ss, wipe, ↓reduceIte, reduceCtorEq,
      Bool.not_eq_true', decide_eq_false_iff_not, List.length_cons, List.length_nil, Nat.zero_add, CDiv, CMul, CPow])
local macro_rules
  | `(tactic| walk_at "z") => `(tactic| first | omega | (rw [sizeLine_eq]; simp only [List.length_append, List.length_map, List.length_cons, List.length_nil, List.length_reverse, nints]; omega) | decide | (simp only [List.length_append, List.length_map, List.length_cons, List.length_nil]; omega))
section
variable {K : PySem.W.Frag} {C : Str → Addr} {H : Hp} {Q : VK} {E : XK} {vs : List V}
theorem rd__law_wide (h : sp__law_wide K C vs H Q E) : t__law_wide K C E (fin Q) (start ["hand", "most", "found", "turn"] vs) H := by
  obtain ⟨a, d, m, most, rfl, ha, hm, hl, q⟩ := h
  show t__law_wide K C E (fin Q) [some (.ref a), some (.int most), none, none] H
  unfold t__law_wide
  have L := Led.own1 ha
  walk_at "w"
  refine ⟨by decide, by decide, for_r (fun i σ H1 => ∃ (d m f : Nat) (y : Option V), m < 2147483587 ∧ Led (rmv H a) [(a, .lst [.int d, .int m])] H1 ∧ σ = [some (.ref a), some (.int most), some (.int f), y]) ⟨d, m, 0, none, hm, L, rfl⟩ ?_ ?_⟩
  · rintro N hN i σ H1 hi ⟨d1, m1, f, y, hm1, L1, rfl⟩
    walk_at "w"
    refine ⟨by decide, Or.inr (by decide), by decide, use_draw (l := 100000000) L1 0 rfl hm1 (by decide) (by decide) fun H2 d2 m2 g hm2 hg L2 => ⟨_, rfl, hN _ _ _ ⟨d2, m2, f * 10 ^ 8 + g, _, hm2, L2, rfl⟩⟩⟩
  · rintro σ H1 ⟨d1, m1, f, y, hm1, L1, rfl⟩
    walk_at "w"
    exact ⟨by omega, q H1 d1 m1 (f % most) hm1 (Nat.mod_lt _ hl) L1⟩
theorem cut_to (xs : List V) (m : Nat) : cutV xs none (some (m : Int)) = xs.take m := cut_none xs m
theorem draws_two {b g : Nat} (hb : 2 ≤ b) (hg : g < 3) : ∃ w : Nat, 2 ≤ w ∧ w ≤ b ∧ atI [V.int b, V.int (if (2 : Int) < b then 2 else b), V.int b] (g : Int) = some (.int w) := by
  have : g = 0 ∨ g = 1 ∨ g = 2 := by omega
  rcases this with rfl | rfl | rfl
  · exact ⟨b, hb, by omega, rfl⟩
  · refine ⟨2, by omega, hb, ?_⟩
    by_cases h : (2 : Int) < b
    · rw [if_pos h]
      rfl
    · rw [if_neg h, show b = 2 by omega]
      rfl
  · exact ⟨b, hb, by omega, rfl⟩
/-- a first half, turned about -/
theorem pal_parts (l : List Nat) (s : Nat) (hs : 1 ≤ s) (hl : l.length = 1 + (s - 1) / 2) : (l ++ (l.take (s / 2)).reverse).length = s ∧ (l ++ (l.take (s / 2)).reverse).reverse = l ++ (l.take (s / 2)).reverse := by
  have h1 : s / 2 ≤ l.length := by omega
  constructor
  · rw [List.length_append, List.length_reverse, List.length_take]
    omega
  · rw [List.reverse_append, List.reverse_reverse]
    apply List.ext_getElem?
    intro i
    by_cases h2 : i < s / 2
    · rw [List.getElem?_append_left (by rw [List.length_take]; omega), List.getElem?_take_of_lt h2, List.getElem?_append_left (by omega)]
    · rw [List.getElem?_append_right (by rw [List.length_take]; omega)]
      rw [show (l.take (s / 2)).length = s / 2 by rw [List.length_take]; omega]
      by_cases h3 : i < s
      · have e1 : i - s / 2 < l.length := by omega
        rw [List.getElem?_reverse e1]
        by_cases h4 : i < l.length
        · rw [List.getElem?_append_left h4]
          congr 1
          omega
        · rw [List.getElem?_append_right (by omega), List.getElem?_reverse (by rw [List.length_take]; omega), List.getElem?_take_of_lt (by rw [List.length_take]; omega)]
          congr 1
          rw [List.length_take]
          omega
      · rw [List.getElem?_eq_none (by rw [List.length_reverse]; omega), List.getElem?_eq_none (by rw [List.length_append, List.length_reverse, List.length_take]; omega)]
theorem rd__law_mirrored (h : sp__law_mirrored K C vs H Q E) : t__law_mirrored K C E (fin Q) (start ["hand", "base", "size", "wide", "some", "k"] vs) H := by
  obtain ⟨a, d, m, b, s, rfl, ha, hm, hb, hb2, hs, hs2, q⟩ := h
  show t__law_mirrored K C E (fin Q) [some (.ref a), some (.int b), some (.int s), none, none, none] H
  unfold t__law_mirrored
  have L0 := Led.own1 ha
  walk_at "w"
  refine ⟨by decide, fun p1 hp1 => ?_⟩
  have L1 := L0.new (o := .lst [V.int b, V.int (if (2 : Int) < b then 2 else b), V.int b]) hp1
  generalize upd _ _ _ = H1 at L1 ⊢
  refine use_draw (l := 3) L1 1 rfl hm (by decide) (by decide) fun H2 d2 m2 g2 hm2 hg2 L2 => ?_
  walk_at "w"
  obtain ⟨w, hw1, hw2, hat⟩ := draws_two hb hg2
  refine ⟨_, L2.sqI 0 rfl, _, hat, ?_⟩
  have L3 := L2.tail
  rw [show (b : Int) - 1 = ((b - 1 : Nat) : Int) by omega]
  refine use_draw L3 0 rfl hm2 (by omega) (by omega) fun H4 d4 m4 g4 hm4 hg4 L4 => ?_
  walk_at "w"
  refine ⟨by decide, fun p5 hp5 => ?_⟩
  have L5 := L4.new (o := .lst [V.int (1 + (g4 : Int))]) hp5
  generalize upd _ _ _ = H5 at L5 ⊢
  refine ⟨by decide, by omega, by omega, fun P hP => ?_⟩
  refine lc_draw L5 hP 1 rfl hm4 (l := w) (by omega) (by omega) (fun _ => rfl) (fun _ => rfl) (fun _ => rfl) (by rw [sizeLine_eq]; omega) fun H6 d6 m6 ls hls hls2 hm6 L6 => ?_
  have hls3 : ls.length = (s - 1) / 2 := by omega
  walk_at "w"
  refine ⟨_, L6.get 1 rfl, _, L6.get 0 rfl, by show 1 + (nints ls).length ≤ sizeLine; rw [nints_len, sizeLine_eq]; omega, fun p7 hp7 => ?_⟩
  have L7 := L6.new (o := .lst ([V.int (1 + (g4 : Int))] ++ nints ls)) hp7
  generalize upd _ _ _ = H7 at L7 ⊢
  have e7 : [V.int (1 + (g4 : Int))] ++ nints ls = nints ((1 + g4) :: ls) := by simp [nints]
  rw [e7] at L7
  have hhl : ((1 + g4) :: ls).length = 1 + (s - 1) / 2 := by rw [List.length_cons]; omega
  refine ⟨by decide, _, L7.sqI 0 rfl, fun p8 hp8 => ?_⟩
  have L8 := L7.new (o := .lst (cutV (nints ((1 + g4) :: ls)) none (some ((s : Int) / 2)))) hp8
  generalize upd _ _ _ = H8 at L8 ⊢
  refine ⟨_, L8.sqI 0 rfl, fun p9 hp9 => ?_⟩
  have L9 := L8.new (o := .lst (cutV (nints ((1 + g4) :: ls)) none (some ((s : Int) / 2))).reverse) hp9
  generalize upd _ _ _ = H9 at L9 ⊢
  have e9 : (cutV (nints ((1 + g4) :: ls)) none (some ((s : Int) / 2))).reverse = nints ((((1 + g4) :: ls).take (s / 2)).reverse) := by
    rw [show ((s : Int) / 2) = ((s / 2 : Nat) : Int) by omega, cut_none]
    simp [nints, List.map_take]
  rw [e9] at L9
  refine ⟨_, L9.get 2 rfl, _, L9.get 0 rfl, ?_, fun p10 hp10 => ?_⟩
  · rw [nints_len, nints_len, List.length_reverse, List.length_take, sizeLine_eq]
    omega
  have L10 := L9.new (o := .lst (nints ((1 + g4) :: ls) ++ nints ((((1 + g4) :: ls).take (s / 2)).reverse))) hp10
  generalize upd _ _ _ = H10 at L10 ⊢
  obtain ⟨hp1', hp2'⟩ := pal_parts ((1 + g4) :: ls) s hs hhl
  have e10 : nints ((1 + g4) :: ls) ++ nints ((((1 + g4) :: ls).take (s / 2)).reverse) = nints (((1 + g4) :: ls) ++ (((1 + g4) :: ls).take (s / 2)).reverse) := by simp [nints]
  rw [e10] at L10
  have hbd : ∀ x ∈ (1 + g4) :: ls, x < b := fun x hx => by
    rcases List.mem_cons.mp hx with e | e
    · omega
    · have := hls2 x e
      omega
  have hbd2 : ∀ x ∈ ((1 + g4) :: ls) ++ (((1 + g4) :: ls).take (s / 2)).reverse, x < b := fun x hx => by
    rcases List.mem_append.mp hx with e | e
    · exact hbd x e
    · exact hbd x (List.mem_of_mem_take (List.mem_reverse.mp e))
  have hpos : ∀ x, (((1 + g4) :: ls) ++ (((1 + g4) :: ls).take (s / 2)).reverse).head? = some x → 0 < x := fun x hx => by
    have : 1 + g4 = x := by simpa using hx
    omega
  refine ⟨p10, _, b, rfl, L10.sqI 0 rfl, hb2, fun x hx => by have := hbd2 x hx; omega, by rw [hp1']; omega, fun H11 M11 => ?_⟩
  have L11 := L10.step0 M11
  exact q H11 d6 m6 _ hm6 ⟨by simp, hbd2, Or.inr hpos, by rw [hp1']; omega⟩ hpos hp1' hp2' (L11.one 6 rfl)
theorem num_end {H' : Hp} {P : Nat → Prop} {most : Nat} {z : Int} (h : ∀ g : Nat, g ≤ most → Q (.int g) H') : Q (.int (if (if z < most then z else (most : Int)) > 0 then (if z < most then z else (most : Int)) else 0)) H' := by
  obtain ⟨g, hg, e⟩ : ∃ g : Nat, g ≤ most ∧ (if (if z < most then z else (most : Int)) > 0 then (if z < most then z else (most : Int)) else 0) = g := by
    by_cases h1 : z < most
    · by_cases h2 : z > 0
      · exact ⟨z.toNat, by omega, by rw [if_pos h1, if_pos h2]; omega⟩
      · exact ⟨0, by omega, by rw [if_pos h1, if_neg h2]; rfl⟩
    · by_cases h2 : (most : Int) > 0
      · exact ⟨most, by omega, by rw [if_neg h1, if_pos h2]⟩
      · exact ⟨0, by omega, by rw [if_neg h1, if_neg h2]; rfl⟩
  rw [e]
  exact h g hg
theorem rd__law_number (h : sp__law_number K C vs H Q E) : t__law_number K C E (fin Q) (start ["hand", "base", "most", "size", "unit", "way", "number"] vs) H := by
  obtain ⟨a, d, m, b, most, rfl, ha, hm, hb, hb2, hl, q⟩ := h
  show t__law_number K C E (fin Q) [some (.ref a), some (.int b), some (.int most), none, none, none, none] H
  unfold t__law_number
  have L0 := Led.own1 ha
  walk_at "w"
  refine ⟨most, b, rfl, hb, hb2, hl, fun p1 H1 M1 => ?_⟩
  have L1 := L0.step M1
  have hlen := figs_len_lim hb hl
  have hlen1 : 0 < (figs b most).length := figs_len_pos
  walk_at "w"
  refine ⟨_, .inl (L1.sqI 0 rfl), ?_⟩
  rw [nints_len]
  refine use_draw L1 1 rfl hm hlen1 (by omega) fun H2 d2 m2 s hm2 hs L2 => ?_
  have L2 := L2.tail
  walk_at "w"
  rw [show (1 : Int) + s - 1 = s by omega]
  refine use_power hb2 (by omega) ?_
  refine use_draw (l := 7) L2 0 rfl hm2 (by decide) (by decide) fun H3 d3 m3 w hm3 hw L3 => ?_
  walk_at "w"
  have hpow : 0 < b ^ s := Nat.pow_pos (by omega)
  refine ⟨by omega, ?_⟩
  refine use_wide (most := b ^ s * b) L3 0 rfl hm3 (Nat.mul_pos hpow (by omega)) fun H4 d4 m4 g4 hm4 hg4 L4 => ?_
  have LL := (L4.one 0 rfl)
  clear L0 M1 L1 L2 L3 L4
  walk_at "w"
  -- any number, then the four ways
  refine cut_ (fun σ H' => ∃ (d m : Nat) (z : Int), m < 2147483587 ∧ Led (rmv H a) [(a, .lst [.int d, .int m])] H' ∧ σ = [some (.ref a), some (.int b), some (.int most), some (.int (1 + (s : Int))), some (.int ((b ^ s : Nat))), some (.int w), some (.int z)]) ?_ ?_
  · intro M hM
    walk_at "w"
    by_cases hc : (w : Int) = 1
    · rw [if_pos hc]
      refine use_draw (l := 5) LL 0 rfl hm4 (by decide) (by decide) fun H5 d5 m5 g5 hm5 hg5 L5 => ⟨_, rfl, hM _ _ ⟨d5, m5, _, hm5, L5, rfl⟩⟩
    · rw [if_neg hc]
      exact hM _ _ ⟨d4, m4, _, hm4, LL, rfl⟩
  rintro σ H5 ⟨d5, m5, z5, hm5, L5, rfl⟩
  refine cut_ (fun σ H' => ∃ (d m : Nat) (z : Int), m < 2147483587 ∧ Led (rmv H a) [(a, .lst [.int d, .int m])] H' ∧ σ = [some (.ref a), some (.int b), some (.int most), some (.int (1 + (s : Int))), some (.int ((b ^ s : Nat))), some (.int w), some (.int z)]) ?_ ?_
  · intro M hM
    walk_at "w"
    have key : sp__law_mirrored K C [V.ref a, V.int b, V.int (1 + (s : Int))] H5 (fun x H1 => sp__law_draw K C [V.ref a, V.int 3] H1 (fun y H2 => ∃ i, x = V.int i ∧ ∃ x, y = V.int x ∧ M [some (V.ref a), some (V.int b), some (V.int most), some (V.int (1 + (s : Int))), some (V.int ((b ^ s : Nat))), some (V.int w), some (V.int (i + x - 1))] H2) E0) E0 := by
      rw [show (1 : Int) + s = ((1 + s : Nat) : Int) by omega]
      refine use_mirrored L5 0 rfl hm5 hb hb2 (by omega) (by omega) fun H6 d6 m6 l hm6 _ _ _ _ L6 => ?_
      exact use_draw (l := 3) L6 0 rfl hm6 (by decide) (by decide) fun H7 d7 m7 g7 hm7 hg7 L7 => ⟨_, rfl, _, rfl, hM _ _ ⟨d7, m7, _, hm7, L7, rfl⟩⟩
    by_cases hc : (w : Int) = 2
    · rw [if_pos hc]
      exact key
    · rw [if_neg hc]
      by_cases hc : (w : Int) = 3
      · rw [if_pos hc]
        exact key
      · rw [if_neg hc]
        exact hM _ _ ⟨d5, m5, z5, hm5, L5, rfl⟩
  rintro σ H6 ⟨d6, m6, z6, hm6, L6, rfl⟩
  refine cut_ (fun σ H' => ∃ (d m : Nat) (z : Int), m < 2147483587 ∧ Led (rmv H a) [(a, .lst [.int d, .int m])] H' ∧ σ = [some (.ref a), some (.int b), some (.int most), some (.int (1 + (s : Int))), some (.int ((b ^ s : Nat))), some (.int w), some (.int z)]) ?_ ?_
  · intro M hM
    walk_at "w"
    by_cases hc : (w : Int) = 4
    · rw [if_pos hc]
      refine ⟨by omega, ?_⟩
      rw [show (1 : Int) + s = ((1 + s : Nat) : Int) by omega]
      refine use_draw L6 0 rfl hm6 (by omega) (by omega) fun H7 d7 m7 g7 hm7 hg7 L7 => ?_
      refine use_power hb2 (by omega) ?_
      refine use_draw (l := 2) L7 0 rfl hm7 (by decide) (by decide) fun H8 d8 m8 g8 hm8 hg8 L8 => ?_
      refine ⟨_, rfl, _, rfl, Or.inr (by omega), hM _ _ ⟨d8, m8, _, hm8, L8, rfl⟩⟩
    · rw [if_neg hc]
      exact hM _ _ ⟨d6, m6, z6, hm6, L6, rfl⟩
  rintro σ H7 ⟨d7, m7, z7, hm7, L7, rfl⟩
  refine cut_ (fun σ H' => ∃ (d m : Nat) (z : Int), m < 2147483587 ∧ Led (rmv H a) [(a, .lst [.int d, .int m])] H' ∧ σ = [some (.ref a), some (.int b), some (.int most), some (.int (1 + (s : Int))), some (.int ((b ^ s : Nat))), some (.int w), some (.int z)]) ?_ ?_
  · intro M hM
    walk_at "w"
    by_cases hc : (w : Int) = 5
    · rw [if_pos hc]
      exact use_draw (l := 60) L7 0 rfl hm7 (by decide) (by decide) fun H8 d8 m8 g8 hm8 hg8 L8 => hM _ _ ⟨d8, m8, _, hm8, L8, rfl⟩
    · rw [if_neg hc]
      exact hM _ _ ⟨d7, m7, z7, hm7, L7, rfl⟩
  rintro σ H8 ⟨d8, m8, z8, hm8, L8, rfl⟩
  walk_at "w"
  exact num_end (most := most) (P := fun _ => True) fun g hg => q H8 d8 m8 g hm8 hg L8
end
end Mi

namespace Mi
open PySem PySem.Spec PyProof.Rows L2
def topS (i : Nat) : Stmt := PySem.Challenge.pw_mirrorsums_k16_whole_two.main.body.getD i (.Pass ⟨0, 0, 0, 0⟩)
theorem len_any {sp : Sp} {n : Nat} (h : ∀ vs H Q E, sp vs H Q E → vs.length = n) : ∀ vs H Q E, sp vs H Q E → vs.length = n := h

abbrev s__law_cells : Stmt := topS 22
theorem sc__law_cells : FnScope ["script", "many"] ["script", "many"] (defScope s__law_cells) := ⟨rfl, rfl, rfl, by decide +kernel, rfl, by decide +kernel, by decide +kernel⟩
abbrev s__law_hand : Stmt := topS 20
theorem sc__law_hand : FnScope ["cell", "k", "digits"] ["cell", "k"] (defScope s__law_hand) := ⟨rfl, rfl, rfl, by decide +kernel, rfl, by decide +kernel, by decide +kernel⟩
abbrev s__law_draw : Stmt := topS 21
theorem sc__law_draw : FnScope ["hand", "limit", "got"] ["hand", "limit"] (defScope s__law_draw) := ⟨rfl, rfl, rfl, by decide +kernel, rfl, by decide +kernel, by decide +kernel⟩
abbrev s__law_base : Stmt := topS 23
theorem sc__law_base : FnScope ["hand", "ends"] ["hand"] (defScope s__law_base) := ⟨rfl, rfl, rfl, by decide +kernel, rfl, by decide +kernel, by decide +kernel⟩
abbrev s__law_figures : Stmt := topS 25
theorem sc__law_figures : FnScope ["number", "base", "found", "rest"] ["number", "base"] (defScope s__law_figures) := ⟨rfl, rfl, rfl, by decide +kernel, rfl, by decide +kernel, by decide +kernel⟩
abbrev s__law_power : Stmt := topS 24
theorem sc__law_power : FnScope ["base", "many", "found", "turn"] ["base", "many"] (defScope s__law_power) := ⟨rfl, rfl, rfl, by decide +kernel, rfl, by decide +kernel, by decide +kernel⟩
abbrev s__law_wide : Stmt := topS 27
theorem sc__law_wide : FnScope ["hand", "most", "found", "turn"] ["hand", "most"] (defScope s__law_wide) := ⟨rfl, rfl, rfl, by decide +kernel, rfl, by decide +kernel, by decide +kernel⟩
abbrev s__law_value : Stmt := topS 26
theorem sc__law_value : FnScope ["some", "base", "k", "figure"] ["some", "base"] (defScope s__law_value) := ⟨rfl, rfl, rfl, by decide +kernel, rfl, by decide +kernel, by decide +kernel⟩
abbrev s__law_mirrored : Stmt := topS 28
theorem sc__law_mirrored : FnScope ["hand", "base", "size", "wide", "some", "k"] ["hand", "base", "size"] (defScope s__law_mirrored) := ⟨rfl, rfl, rfl, by decide +kernel, rfl, by decide +kernel, by decide +kernel⟩
abbrev s__law_number : Stmt := topS 29
theorem sc__law_number : FnScope ["hand", "base", "most", "size", "unit", "way", "number"] ["hand", "base", "most"] (defScope s__law_number) := ⟨rfl, rfl, rfl, by decide +kernel, rfl, by decide +kernel, by decide +kernel⟩
abbrev s_is_whole : Stmt := topS 4
theorem sc_is_whole : FnScope ["thing"] ["thing"] (defScope s_is_whole) := ⟨rfl, rfl, rfl, by decide +kernel, rfl, by decide +kernel, by decide +kernel⟩
abbrev s_need_base : Stmt := topS 5
theorem sc_need_base : FnScope ["base"] ["base"] (defScope s_need_base) := ⟨rfl, rfl, rfl, by decide +kernel, rfl, by decide +kernel, by decide +kernel⟩
abbrev s_figures_of : Stmt := topS 6
theorem sc_figures_of : FnScope ["number", "base", "found"] ["number", "base"] (defScope s_figures_of) := ⟨rfl, rfl, rfl, by decide +kernel, rfl, by decide +kernel, by decide +kernel⟩
abbrev s_put_together : Stmt := topS 7
theorem sc_put_together : FnScope ["some", "base", "number", "figure"] ["some", "base"] (defScope s_put_together) := ⟨rfl, rfl, rfl, by decide +kernel, rfl, by decide +kernel, by decide +kernel⟩
abbrev s_half_of : Stmt := topS 11
theorem sc_half_of : FnScope ["number", "base", "some"] ["number", "base"] (defScope s_half_of) := ⟨rfl, rfl, rfl, by decide +kernel, rfl, by decide +kernel, by decide +kernel⟩
abbrev s_mirror_of : Stmt := topS 12
theorem sc_mirror_of : FnScope ["half", "size", "base", "some"] ["half", "size", "base"] (defScope s_mirror_of) := ⟨rfl, rfl, rfl, by decide +kernel, rfl, by decide +kernel, by decide +kernel⟩
abbrev s_power_of : Stmt := topS 10
theorem sc_power_of : FnScope ["base", "many", "found", "turn"] ["base", "many"] (defScope s_power_of) := ⟨rfl, rfl, rfl, by decide +kernel, rfl, by decide +kernel, by decide +kernel⟩
abbrev s_at_most : Stmt := topS 13
theorem sc_at_most : FnScope ["number", "base", "size", "half"] ["number", "base"] (defScope s_at_most) := ⟨rfl, rfl, rfl, by decide +kernel, rfl, by decide +kernel, by decide +kernel⟩
abbrev s_is_mirrored : Stmt := topS 8
theorem sc_is_mirrored : FnScope ["thing", "base", "some"] ["thing", "base"] (defScope s_is_mirrored) := ⟨rfl, rfl, rfl, by decide +kernel, rfl, by decide +kernel, by decide +kernel⟩
abbrev s_some_by_two : Stmt := topS 15
theorem sc_some_by_two : FnScope ["number", "base", "most", "found", "one"] ["number", "base", "most"] (defScope s_some_by_two) := ⟨rfl, rfl, rfl, by decide +kernel, rfl, by decide +kernel, by decide +kernel⟩
abbrev s_by_two : Stmt := topS 16
theorem sc_by_two : FnScope ["number", "base"] ["number", "base"] (defScope s_by_two) := ⟨rfl, rfl, rfl, by decide +kernel, rfl, by decide +kernel, by decide +kernel⟩
abbrev s_many_by_two : Stmt := topS 17
theorem sc_many_by_two : FnScope ["number", "base"] ["number", "base"] (defScope s_many_by_two) := ⟨rfl, rfl, rfl, by decide +kernel, rfl, by decide +kernel, by decide +kernel⟩
abbrev s_first_by_two : Stmt := topS 18
theorem sc_first_by_two : FnScope ["number", "base", "found"] ["number", "base"] (defScope s_first_by_two) := ⟨rfl, rfl, rfl, by decide +kernel, rfl, by decide +kernel, by decide +kernel⟩
abbrev s__law_right : Stmt := topS 30
theorem sc__law_right : FnScope ["number", "base", "ways", "way", "half", "one", "further"] ["number", "base"] (defScope s__law_right) := ⟨rfl, rfl, rfl, by decide +kernel, rfl, by decide +kernel, by decide +kernel⟩
abbrev s_law : Stmt := topS 31
theorem sc_law : FnScope ["script", "k", "cell", "hand", "base", "number", "size", "both", "ways", "j"] ["script"] (defScope s_law) := ⟨rfl, rfl, rfl, by decide +kernel, rfl, by decide +kernel, by decide +kernel⟩
section
variable {P : Program} {w : World} {K : PySem.W.Frag} {mg : Str → Option Value} {base : Heap} {C : Str → Addr}
theorem c__law_cells {f : Addr} {fd : FuncData} (F : Fun K "_law_cells" "_law_cells" s__law_cells f fd) (B : Binds K fd ["script", "many"] []) (hm : mg "_law_cells" = some (.ref f)) (bi_list : mg "list" = none) (bi_enumerate : mg "enumerate" = none) (bi_int : mg "int" = none) : Cal P w K mg base 1 "_law_cells" (sp__law_cells K C) := by
  refine ⟨f, hm, F.kp, fg_of F sc__law_cells B (fun vs H Q E h => by (repeat (rcases h with ⟨_, h⟩)) <;> (subst_vars; rfl)) (fun cdv A outer s H vs Q E hr h => ⟨t__law_cells K C E, ?_, rd__law_cells  h⟩)⟩
  have sc := sc__law_cells
  have po := passes_of (X := cxOf (L2.CX P w) P w K mg base ["script", "many"] "_law_cells" (defScope s__law_cells) f cdv A outer s H E) rfl
  have tk0 : Takes (cxOf (L2.CX P w) P w K mg base ["script", "many"] "_law_cells" (defScope s__law_cells) f cdv A outer s H E) (fun cls d _ H => E cls d H) := takes_of rfl rfl rfl rfl
  exact (pss_one (ps_ret (pe_listEnum rfl rfl rfl bi_list bi_enumerate (pe_op op_cat (pe_slice sl_list (pv 0) po_none (po_some (pv 1))) (pe_op op_rep (pe_lst (pa_cons pe_int pa_nil)) (pe_callTy call_int1 (by rfl) bi_int (by decide +kernel) (pa_cons (pe_cmpR (op_eqLI hr) (pv 0) (pe_lst pa_nil) (nomark _)) pa_nil)))))))
theorem c__law_hand {f : Addr} {fd : FuncData} (F : Fun K "_law_hand" "_law_hand" s__law_hand f fd) (B : Binds K fd ["cell", "k"] []) (hm : mg "_law_hand" = some (.ref f))  : Cal P w K mg base 1 "_law_hand" (sp__law_hand K C) := by
  refine ⟨f, hm, F.kp, fg_of F sc__law_hand B (fun vs H Q E h => by (repeat (rcases h with ⟨_, h⟩)) <;> (subst_vars; rfl)) (fun cdv A outer s H vs Q E hr h => ⟨t__law_hand K C E, ?_, rd__law_hand  h⟩)⟩
  have sc := sc__law_hand
  have po := passes_of (X := cxOf (L2.CX P w) P w K mg base ["cell", "k", "digits"] "_law_hand" (defScope s__law_hand) f cdv A outer s H E) rfl
  have tk0 : Takes (cxOf (L2.CX P w) P w K mg base ["cell", "k", "digits"] "_law_hand" (defScope s__law_hand) f cdv A outer s H E) (fun cls d _ H => E cls d H) := takes_of rfl rfl rfl rfl
  exact (pss_cons (ps_set (i := 2) sc.nd rfl (Or.inl rfl) pe_int)
    (pss_cons (ps_if (pt_cmpR (op_ge) (pv 0) (pe_op op_pow pe_int pe_int) (nomark _)) (pss_one (ps_set (i := 2) sc.nd rfl (Or.inl rfl) (pv 0))) pss_nil)
    (pss_one (ps_ret (pe_lst (pa_cons (pv 2) (pa_cons (pe_op op_mod (pe_op op_mul (pe_op op_add (pe_op op_add (pe_op op_mod (pv 0) pe_int) (pe_op op_mul pe_int (pv 1))) pe_int) pe_int) pe_int) pa_nil)))))))
theorem c__law_draw {f : Addr} {fd : FuncData} (F : Fun K "_law_draw" "_law_draw" s__law_draw f fd) (B : Binds K fd ["hand", "limit"] []) (hm : mg "_law_draw" = some (.ref f))  : Cal P w K mg base 1 "_law_draw" (sp__law_draw K C) := by
  refine ⟨f, hm, F.kp, fg_of F sc__law_draw B (fun vs H Q E h => by (repeat (rcases h with ⟨_, h⟩)) <;> (subst_vars; rfl)) (fun cdv A outer s H vs Q E hr h => ⟨t__law_draw K C E, ?_, rd__law_draw  h⟩)⟩
  have sc := sc__law_draw
  have po := passes_of (X := cxOf (L2.CX P w) P w K mg base ["hand", "limit", "got"] "_law_draw" (defScope s__law_draw) f cdv A outer s H E) rfl
  have tk0 : Takes (cxOf (L2.CX P w) P w K mg base ["hand", "limit", "got"] "_law_draw" (defScope s__law_draw) f cdv A outer s H E) (fun cls d _ H => E cls d H) := takes_of rfl rfl rfl rfl
  exact (pss_cons (ps_if (pt_cmpR (op_gt) (pe_ix ix_list (pv 0) pe_int (fun _ _ => rfl)) pe_int (nomark _)) (pss_cons (ps_set (i := 2) sc.nd rfl (Or.inl rfl) (pe_op op_mod (pe_ix ix_list (pv 0) pe_int (fun _ _ => rfl)) (pv 1)))
    (pss_cons (ps_asg (pe_op op_fdiv (pe_ix ix_list (pv 0) pe_int (fun _ _ => rfl)) (pv 1)) (pg_sub (pv 0) pe_int set_list))
    (pss_one (ps_ret (pv 2))))) pss_nil)
    (pss_cons (ps_asg (pe_op op_mod (pe_op op_add (pe_op op_add (pe_op op_mul (pe_ix ix_list (pv 0) pe_int (fun _ _ => rfl)) (pe_ix ix_list (pv 0) pe_int (fun _ _ => rfl))) (pe_op op_mul pe_int (pe_ix ix_list (pv 0) pe_int (fun _ _ => rfl)))) pe_int) pe_int) (pg_sub (pv 0) pe_int set_list))
    (pss_one (ps_ret (pe_op op_mod (pe_op op_fdiv (pe_ix ix_list (pv 0) pe_int (fun _ _ => rfl)) pe_int) (pv 1))))))
theorem c__law_base {f : Addr} {fd : FuncData} (F : Fun K "_law_base" "_law_base" s__law_base f fd) (B : Binds K fd ["hand"] []) (hm : mg "_law_base" = some (.ref f)) (c__law_draw : Cal P w K mg base 1 "_law_draw" (sp__law_draw K C)) : Cal P w K mg base 2 "_law_base" (sp__law_base K C) := by
  refine ⟨f, hm, F.kp, fg_of F sc__law_base B (fun vs H Q E h => by (repeat (rcases h with ⟨_, h⟩)) <;> (subst_vars; rfl)) (fun cdv A outer s H vs Q E hr h => ⟨t__law_base K C E, ?_, rd__law_base  h⟩)⟩
  have sc := sc__law_base
  have po := passes_of (X := cxOf (L2.CX P w) P w K mg base ["hand", "ends"] "_law_base" (defScope s__law_base) f cdv A outer s H E) rfl
  have tk0 : Takes (cxOf (L2.CX P w) P w K mg base ["hand", "ends"] "_law_base" (defScope s__law_base) f cdv A outer s H E) (fun cls d _ H => E cls d H) := takes_of rfl rfl rfl rfl
  exact (pss_cons (ps_set (i := 1) sc.nd rfl (Or.inl rfl) (pe_ix ix_list (pe_lst (pa_cons pe_int (pa_cons pe_int (pa_cons pe_int (pa_cons pe_int pa_nil))))) (pe_go c__law_draw (hr.mono (by decide)) pas0 (pa_cons (pv 0) (pa_cons pe_int pa_nil))) (fun _ _ => rfl)))
    (pss_one (ps_ret (pe_ix ix_list (pe_lst (pa_cons (pe_op op_add pe_int (pe_go c__law_draw (hr.mono (by decide)) pas0 (pa_cons (pv 0) (pa_cons pe_int pa_nil)))) (pa_cons pe_int (pa_cons (pe_op op_add pe_int (pe_go c__law_draw (hr.mono (by decide)) pas0 (pa_cons (pv 0) (pa_cons pe_int pa_nil)))) (pa_cons (pv 1) pa_nil))))) (pe_go c__law_draw (hr.mono (by decide)) pas0 (pa_cons (pv 0) (pa_cons pe_int pa_nil))) (fun _ _ => rfl)))))
theorem c__law_figures {f : Addr} {fd : FuncData} (F : Fun K "_law_figures" "_law_figures" s__law_figures f fd) (B : Binds K fd ["number", "base"] []) (hm : mg "_law_figures" = some (.ref f))  : Cal P w K mg base 1 "_law_figures" (sp__law_figures K C) := by
  refine ⟨f, hm, F.kp, fg_of F sc__law_figures B (fun vs H Q E h => by (repeat (rcases h with ⟨_, h⟩)) <;> (subst_vars; rfl)) (fun cdv A outer s H vs Q E hr h => ⟨t__law_figures K C E, ?_, rd__law_figures  h⟩)⟩
  have sc := sc__law_figures
  have po := passes_of (X := cxOf (L2.CX P w) P w K mg base ["number", "base", "found", "rest"] "_law_figures" (defScope s__law_figures) f cdv A outer s H E) rfl
  have tk0 : Takes (cxOf (L2.CX P w) P w K mg base ["number", "base", "found", "rest"] "_law_figures" (defScope s__law_figures) f cdv A outer s H E) (fun cls d _ H => E cls d H) := takes_of rfl rfl rfl rfl
  exact (pss_cons (ps_set (i := 2) sc.nd rfl (Or.inl rfl) (pe_lst (pa_cons (pe_op op_mod (pv 0) (pv 1)) pa_nil)))
    (pss_cons (ps_set (i := 3) sc.nd rfl (Or.inl rfl) (pe_op op_fdiv (pv 0) (pv 1)))
    (pss_cons (ps_while po (pt_cmpR (op_gt) (pv 3) pe_int (nomark _)) (pss_cons (ps_expr (pe_bm PySem.F.plainAttrs_list PySem.F.slot_list_append PySem.F.type_list_append mt_append (pv 2) (pa_cons (pe_op op_mod (pv 3) (pv 1)) pa_nil)))
    (pss_one (ps_set (i := 3) sc.nd rfl (Or.inl rfl) (pe_op op_fdiv (pv 3) (pv 1))))))
    (pss_one (ps_ret (pe_revL (pv 2)))))))
theorem c__law_power {f : Addr} {fd : FuncData} (F : Fun K "_law_power" "_law_power" s__law_power f fd) (B : Binds K fd ["base", "many"] []) (hm : mg "_law_power" = some (.ref f)) (bi_range : mg "range" = none) : Cal P w K mg base 1 "_law_power" (sp__law_power K C) := by
  refine ⟨f, hm, F.kp, fg_of F sc__law_power B (fun vs H Q E h => by (repeat (rcases h with ⟨_, h⟩)) <;> (subst_vars; rfl)) (fun cdv A outer s H vs Q E hr h => ⟨t__law_power K C E, ?_, rd__law_power  h⟩)⟩
  have sc := sc__law_power
  have po := passes_of (X := cxOf (L2.CX P w) P w K mg base ["base", "many", "found", "turn"] "_law_power" (defScope s__law_power) f cdv A outer s H E) rfl
  have tk0 : Takes (cxOf (L2.CX P w) P w K mg base ["base", "many", "found", "turn"] "_law_power" (defScope s__law_power) f cdv A outer s H E) (fun cls d _ H => E cls d H) := takes_of rfl rfl rfl rfl
  exact (pss_cons (ps_set (i := 2) sc.nd rfl (Or.inl rfl) pe_int)
    (pss_cons (ps_for po rfl (pi_range1 rfl bi_range (pa_cons (pv 1) pa_nil)) (pg_name (i := 3) sc.nd rfl (Or.inl rfl)) (pss_one (ps_set (i := 2) sc.nd rfl (Or.inl rfl) (pe_op op_mul (pv 2) (pv 0)))))
    (pss_one (ps_ret (pv 2)))))
theorem c__law_wide {f : Addr} {fd : FuncData} (F : Fun K "_law_wide" "_law_wide" s__law_wide f fd) (B : Binds K fd ["hand", "most"] []) (hm : mg "_law_wide" = some (.ref f)) (bi_range : mg "range" = none) (c__law_draw : Cal P w K mg base 1 "_law_draw" (sp__law_draw K C)) : Cal P w K mg base 2 "_law_wide" (sp__law_wide K C) := by
  refine ⟨f, hm, F.kp, fg_of F sc__law_wide B (fun vs H Q E h => by (repeat (rcases h with ⟨_, h⟩)) <;> (subst_vars; rfl)) (fun cdv A outer s H vs Q E hr h => ⟨t__law_wide K C E, ?_, rd__law_wide  h⟩)⟩
  have sc := sc__law_wide
  have po := passes_of (X := cxOf (L2.CX P w) P w K mg base ["hand", "most", "found", "turn"] "_law_wide" (defScope s__law_wide) f cdv A outer s H E) rfl
  have tk0 : Takes (cxOf (L2.CX P w) P w K mg base ["hand", "most", "found", "turn"] "_law_wide" (defScope s__law_wide) f cdv A outer s H E) (fun cls d _ H => E cls d H) := takes_of rfl rfl rfl rfl
  exact (pss_cons (ps_set (i := 2) sc.nd rfl (Or.inl rfl) pe_int)
    (pss_cons (ps_for po rfl (pi_range1 rfl bi_range (pa_cons pe_int pa_nil)) (pg_name (i := 3) sc.nd rfl (Or.inl rfl)) (pss_one (ps_set (i := 2) sc.nd rfl (Or.inl rfl) (pe_op op_add (pe_op op_mul (pv 2) (pe_op op_pow pe_int pe_int)) (pe_go c__law_draw (hr.mono (by decide)) pas0 (pa_cons (pv 0) (pa_cons (pe_op op_pow pe_int pe_int) pa_nil)))))))
    (pss_one (ps_ret (pe_op op_mod (pv 2) (pv 1))))))
theorem c__law_value {f : Addr} {fd : FuncData} (F : Fun K "_law_value" "_law_value" s__law_value f fd) (B : Binds K fd ["some", "base"] []) (hm : mg "_law_value" = some (.ref f)) (bi_sum : mg "sum" = none) (bi_enumerate : mg "enumerate" = none) (bi_len : mg "len" = none) (c__law_power : Cal P w K mg base 1 "_law_power" (sp__law_power K C)) : Cal P w K mg base 2 "_law_value" (sp__law_value K C) := by
  refine ⟨f, hm, F.kp, fg_of F sc__law_value B (fun vs H Q E h => by (repeat (rcases h with ⟨_, h⟩)) <;> (subst_vars; rfl)) (fun cdv A outer s H vs Q E hr h => ⟨t__law_value K C E, ?_, rd__law_value  h⟩)⟩
  have sc := sc__law_value
  have po := passes_of (X := cxOf (L2.CX P w) P w K mg base ["some", "base", "k", "figure"] "_law_value" (defScope s__law_value) f cdv A outer s H E) rfl
  have tk0 : Takes (cxOf (L2.CX P w) P w K mg base ["some", "base", "k", "figure"] "_law_value" (defScope s__law_value) f cdv A outer s H E) (fun cls d _ H => E cls d H) := takes_of rfl rfl rfl rfl
  exact (pss_one (ps_ret (pe_callB (cr_sum rfl) (by rfl) bi_sum (by decide +kernel) (pa_cons (pe_lc (own := [("k", 2), ("figure", 3)]) rfl sc.nd (pi_enum rfl bi_enumerate (pa_cons (pv 0) pa_nil)) (blkOk_by (N := ["some", "base", "k", "figure"]) (sc := defScope s__law_value) (by decide +kernel)) (fun _ _ _ _ _ => (pg_tup rfl (pgs_cons (pg_name (i := 2) sc.nd rfl (by first | exact Or.inl rfl | exact Or.inr rfl)) (pgs_cons (pg_name (i := 3) sc.nd rfl (by first | exact Or.inl rfl | exact Or.inr rfl)) pgs_nil)))) (fun _ _ _ _ _ => pts_nil) (fun _ _ _ _ _ => (pe_op op_mul (pv 3) (pe_go c__law_power (hr.mono (by decide)) pas0 (pa_cons (pv 1) (pa_cons (pe_op op_sub (pe_op op_sub (pe_callB call_len_seq (by rfl) bi_len (by decide +kernel) (pa_cons (pv 0) pa_nil)) pe_int) (pv 2)) pa_nil)))))) pa_nil))))
theorem c__law_mirrored {f : Addr} {fd : FuncData} (F : Fun K "_law_mirrored" "_law_mirrored" s__law_mirrored f fd) (B : Binds K fd ["hand", "base", "size"] []) (hm : mg "_law_mirrored" = some (.ref f)) (bi_min : mg "min" = none) (bi_range : mg "range" = none) (c__law_draw : Cal P w K mg base 1 "_law_draw" (sp__law_draw K C)) (c__law_value : Cal P w K mg base 2 "_law_value" (sp__law_value K C)) : Cal P w K mg base 3 "_law_mirrored" (sp__law_mirrored K C) := by
  refine ⟨f, hm, F.kp, fg_of F sc__law_mirrored B (fun vs H Q E h => by (repeat (rcases h with ⟨_, h⟩)) <;> (subst_vars; rfl)) (fun cdv A outer s H vs Q E hr h => ⟨t__law_mirrored K C E, ?_, rd__law_mirrored  h⟩)⟩
  have sc := sc__law_mirrored
  have po := passes_of (X := cxOf (L2.CX P w) P w K mg base ["hand", "base", "size", "wide", "some", "k"] "_law_mirrored" (defScope s__law_mirrored) f cdv A outer s H E) rfl
  have tk0 : Takes (cxOf (L2.CX P w) P w K mg base ["hand", "base", "size", "wide", "some", "k"] "_law_mirrored" (defScope s__law_mirrored) f cdv A outer s H E) (fun cls d _ H => E cls d H) := takes_of rfl rfl rfl rfl
  exact (pss_cons (ps_set (i := 3) sc.nd rfl (Or.inr rfl) (pe_ix ix_list (pe_lst (pa_cons (pv 1) (pa_cons (pe_callB (call_min2 rfl) (by rfl) bi_min (by decide +kernel) (pa_cons (pv 1) (pa_cons pe_int pa_nil))) (pa_cons (pv 1) pa_nil)))) (pe_go c__law_draw (hr.mono (by decide)) pas0 (pa_cons (pv 0) (pa_cons pe_int pa_nil))) (fun _ _ => rfl)))
    (pss_cons (ps_set (i := 4) sc.nd rfl (Or.inl rfl) (pe_op op_cat (pe_lst (pa_cons (pe_op op_add pe_int (pe_go c__law_draw (hr.mono (by decide)) pas0 (pa_cons (pv 0) (pa_cons (pe_op op_sub (pv 1) pe_int) pa_nil)))) pa_nil)) (pe_lc (own := [("k", 5)]) rfl sc.nd (pi_range1 rfl bi_range (pa_cons (pe_op op_fdiv (pe_op op_sub (pv 2) pe_int) pe_int) pa_nil)) (blkOk_by (N := ["hand", "base", "size", "wide", "some", "k"]) (sc := defScope s__law_mirrored) (by decide +kernel)) (fun _ _ _ _ _ => (pg_name (i := 5) sc.nd rfl (by first | exact Or.inl rfl | exact Or.inr rfl))) (fun _ _ _ _ _ => pts_nil) (fun _ _ _ _ _ => (pe_go c__law_draw (hr.mono (by decide)) pas0 (pa_cons (pv 0) (pa_cons (pv 3) pa_nil)))))))
    (pss_one (ps_ret (pe_go c__law_value (hr.mono (by decide)) pas0 (pa_cons (pe_op op_cat (pv 4) (pe_revL (pe_slice sl_list (pv 4) po_none (po_some (pe_op op_fdiv (pv 2) pe_int))))) (pa_cons (pv 1) pa_nil)))))))
theorem c__law_number {f : Addr} {fd : FuncData} (F : Fun K "_law_number" "_law_number" s__law_number f fd) (B : Binds K fd ["hand", "base", "most"] []) (hm : mg "_law_number" = some (.ref f)) (bi_len : mg "len" = none) (bi_max : mg "max" = none) (bi_min : mg "min" = none) (c__law_draw : Cal P w K mg base 1 "_law_draw" (sp__law_draw K C)) (c__law_figures : Cal P w K mg base 1 "_law_figures" (sp__law_figures K C)) (c__law_power : Cal P w K mg base 1 "_law_power" (sp__law_power K C)) (c__law_wide : Cal P w K mg base 2 "_law_wide" (sp__law_wide K C)) (c__law_mirrored : Cal P w K mg base 3 "_law_mirrored" (sp__law_mirrored K C)) : Cal P w K mg base 4 "_law_number" (sp__law_number K C) := by
  refine ⟨f, hm, F.kp, fg_of F sc__law_number B (fun vs H Q E h => by (repeat (rcases h with ⟨_, h⟩)) <;> (subst_vars; rfl)) (fun cdv A outer s H vs Q E hr h => ⟨t__law_number K C E, ?_, rd__law_number  h⟩)⟩
  have sc := sc__law_number
  have po := passes_of (X := cxOf (L2.CX P w) P w K mg base ["hand", "base", "most", "size", "unit", "way", "number"] "_law_number" (defScope s__law_number) f cdv A outer s H E) rfl
  have tk0 : Takes (cxOf (L2.CX P w) P w K mg base ["hand", "base", "most", "size", "unit", "way", "number"] "_law_number" (defScope s__law_number) f cdv A outer s H E) (fun cls d _ H => E cls d H) := takes_of rfl rfl rfl rfl
  exact (pss_cons (ps_set (i := 3) sc.nd rfl (Or.inl rfl) (pe_op op_add pe_int (pe_go c__law_draw (hr.mono (by decide)) pas0 (pa_cons (pv 0) (pa_cons (pe_callB call_len_seq (by rfl) bi_len (by decide +kernel) (pa_cons (pe_go c__law_figures (hr.mono (by decide)) pas0 (pa_cons (pv 2) (pa_cons (pv 1) pa_nil))) pa_nil)) pa_nil)))))
    (pss_cons (ps_set (i := 4) sc.nd rfl (Or.inl rfl) (pe_go c__law_power (hr.mono (by decide)) pas0 (pa_cons (pv 1) (pa_cons (pe_op op_sub (pv 3) pe_int) pa_nil))))
    (pss_cons (ps_set (i := 5) sc.nd rfl (Or.inl rfl) (pe_go c__law_draw (hr.mono (by decide)) pas0 (pa_cons (pv 0) (pa_cons pe_int pa_nil))))
    (pss_cons (ps_set (i := 6) sc.nd rfl (Or.inl rfl) (pe_go c__law_wide (hr.mono (by decide)) pas0 (pa_cons (pv 0) (pa_cons (pe_op op_mul (pv 4) (pv 1)) pa_nil))))
    (Evl.pss_cut (ps_if (pt_cmpR (op_eq) (pv 5) pe_int (nomark _)) (pss_one (ps_set (i := 6) sc.nd rfl (Or.inl rfl) (pe_op op_sub (pe_op op_add (pv 4) (pe_go c__law_draw (hr.mono (by decide)) pas0 (pa_cons (pv 0) (pa_cons pe_int pa_nil)))) pe_int))) pss_nil)
    (Evl.pss_cut (ps_if (PW.pt (pw_or (pt_cmpR (op_eq) (pv 5) pe_int (nomark _)) (pw_or1 (pt_cmpR (op_eq) (pv 5) pe_int (nomark _))))) (pss_one (ps_set (i := 6) sc.nd rfl (Or.inl rfl) (pe_op op_sub (pe_op op_add (pe_go c__law_mirrored (hr.mono (by decide)) pas0 (pa_cons (pv 0) (pa_cons (pv 1) (pa_cons (pv 3) pa_nil)))) (pe_go c__law_draw (hr.mono (by decide)) pas0 (pa_cons (pv 0) (pa_cons pe_int pa_nil)))) pe_int))) pss_nil)
    (Evl.pss_cut (ps_if (pt_cmpR (op_eq) (pv 5) pe_int (nomark _)) (pss_one (ps_set (i := 6) sc.nd rfl (Or.inl rfl) (pe_op op_sub (pe_op op_sub (pe_op op_mul (pv 4) (pv 1)) pe_int) (pe_op op_mul (pe_go c__law_power (hr.mono (by decide)) pas0 (pa_cons (pv 1) (pa_cons (pe_go c__law_draw (hr.mono (by decide)) pas0 (pa_cons (pv 0) (pa_cons (pv 3) pa_nil))) pa_nil))) (pe_go c__law_draw (hr.mono (by decide)) pas0 (pa_cons (pv 0) (pa_cons pe_int pa_nil))))))) pss_nil)
    (Evl.pss_cut (ps_if (pt_cmpR (op_eq) (pv 5) pe_int (nomark _)) (pss_one (ps_set (i := 6) sc.nd rfl (Or.inl rfl) (pe_go c__law_draw (hr.mono (by decide)) pas0 (pa_cons (pv 0) (pa_cons pe_int pa_nil))))) pss_nil)
    (pss_one (ps_ret (pe_callB (call_max2 rfl) (by rfl) bi_max (by decide +kernel) (pa_cons pe_int (pa_cons (pe_callB (call_min2 rfl) (by rfl) bi_min (by decide +kernel) (pa_cons (pv 2) (pa_cons (pv 6) pa_nil))) pa_nil)))))))))))))
theorem c_is_whole {f : Addr} {fd : FuncData} (F : Fun K "is_whole" "is_whole" s_is_whole f fd) (B : Binds K fd ["thing"] []) (hm : mg "is_whole" = some (.ref f)) (bi_isinstance : mg "isinstance" = none) (bi_int : mg "int" = none) (bi_bool : mg "bool" = none) : Cal P w K mg base 1 "is_whole" (sp_is_whole K C) := by
  refine ⟨f, hm, F.kp, fg_of F sc_is_whole B (fun vs H Q E h => by (repeat (rcases h with ⟨_, h⟩)) <;> (subst_vars; rfl)) (fun cdv A outer s H vs Q E hr h => ⟨t_is_whole K C E, ?_, rd_is_whole  h⟩)⟩
  have sc := sc_is_whole
  have po := passes_of (X := cxOf (L2.CX P w) P w K mg base ["thing"] "is_whole" (defScope s_is_whole) f cdv A outer s H E) rfl
  have tk0 : Takes (cxOf (L2.CX P w) P w K mg base ["thing"] "is_whole" (defScope s_is_whole) f cdv A outer s H E) (fun cls d _ H => E cls d H) := takes_of rfl rfl rfl rfl
  exact (pss_one (ps_ret (pe_and (pe_callB call_isiY (by rfl) bi_isinstance (by decide +kernel) (pa_cons (pv 0) (pa_cons (pe_bltn (v := .ty "int") rfl bi_int (by decide +kernel) rfl) pa_nil))) (pe_one (pe_not (pe_callB call_isiY (by rfl) bi_isinstance (by decide +kernel) (pa_cons (pv 0) (pa_cons (pe_bltn (v := .ty "bool") rfl bi_bool (by decide +kernel) rfl) pa_nil))))))))
theorem c_need_base {f : Addr} {fd : FuncData} (F : Fun K "need_base" "need_base" s_need_base f fd) (B : Binds K fd ["base"] []) (hm : mg "need_base" = some (.ref f)) (ex_NoBase : Exc1 K mg C "NoBase") (c_is_whole : Cal P w K mg base 1 "is_whole" (sp_is_whole K C)) : Cal P w K mg base 2 "need_base" (sp_need_base K C) := by
  refine ⟨f, hm, F.kp, fg_of F sc_need_base B (fun vs H Q E h => by (repeat (rcases h with ⟨_, h⟩)) <;> (subst_vars; rfl)) (fun cdv A outer s H vs Q E hr h => ⟨t_need_base K C E, ?_, rd_need_base  h⟩)⟩
  have sc := sc_need_base
  have po := passes_of (X := cxOf (L2.CX P w) P w K mg base ["base"] "need_base" (defScope s_need_base) f cdv A outer s H E) rfl
  have tk0 : Takes (cxOf (L2.CX P w) P w K mg base ["base"] "need_base" (defScope s_need_base) f cdv A outer s H E) (fun cls d _ H => E cls d H) := takes_of rfl rfl rfl rfl
  exact (pss_one (ps_if (PW.pt (pw_or (pt_not (pt_val (pe_go c_is_whole (hr.mono (by decide)) pas0 (pa_cons (pv 0) pa_nil)))) (pw_or1 (pt_not (pt_chain (op_le) (op_le) pe_int (pv 0) pe_int))))) (pss_one (ps_raise rfl tk0 (pmk_own PySem.F.excBase_ValueError ex_NoBase.x ex_NoBase.g ex_NoBase.k (raises_own ex_NoBase.b ex_NoBase.t) rfl))) pss_nil))
theorem c_figures_of {f : Addr} {fd : FuncData} (F : Fun K "figures_of" "figures_of" s_figures_of f fd) (B : Binds K fd ["number", "base"] []) (hm : mg "figures_of" = some (.ref f))  : Cal P w K mg base 1 "figures_of" (sp_figures_of K C) := by
  refine ⟨f, hm, F.kp, fg_of F sc_figures_of B (fun vs H Q E h => by (repeat (rcases h with ⟨_, h⟩)) <;> (subst_vars; rfl)) (fun cdv A outer s H vs Q E hr h => ⟨t_figures_of K C E, ?_, rd_figures_of  h⟩)⟩
  have sc := sc_figures_of
  have po := passes_of (X := cxOf (L2.CX P w) P w K mg base ["number", "base", "found"] "figures_of" (defScope s_figures_of) f cdv A outer s H E) rfl
  have tk0 : Takes (cxOf (L2.CX P w) P w K mg base ["number", "base", "found"] "figures_of" (defScope s_figures_of) f cdv A outer s H E) (fun cls d _ H => E cls d H) := takes_of rfl rfl rfl rfl
  exact (pss_cons (ps_set (i := 2) sc.nd rfl (Or.inl rfl) (pe_lst (pa_cons (pe_op op_mod (pv 0) (pv 1)) pa_nil)))
    (pss_cons (ps_while po (pt_cmpR (op_ge) (pv 0) (pv 1) (nomark _)) (pss_cons (ps_aug (i := 0) sc.nd rfl (Or.inl rfl) (pv 1) (ip_of iop_fdiv))
    (pss_one (ps_expr (pe_bm PySem.F.plainAttrs_list PySem.F.slot_list_append PySem.F.type_list_append mt_append (pv 2) (pa_cons (pe_op op_mod (pv 0) (pv 1)) pa_nil))))))
    (pss_one (ps_ret (pe_revL (pv 2))))))
theorem c_put_together {f : Addr} {fd : FuncData} (F : Fun K "put_together" "put_together" s_put_together f fd) (B : Binds K fd ["some", "base"] []) (hm : mg "put_together" = some (.ref f))  : Cal P w K mg base 1 "put_together" (sp_put_together K C) := by
  refine ⟨f, hm, F.kp, fg_of F sc_put_together B (fun vs H Q E h => by (repeat (rcases h with ⟨_, h⟩)) <;> (subst_vars; rfl)) (fun cdv A outer s H vs Q E hr h => ⟨t_put_together K C E, ?_, rd_put_together  h⟩)⟩
  have sc := sc_put_together
  have po := passes_of (X := cxOf (L2.CX P w) P w K mg base ["some", "base", "number", "figure"] "put_together" (defScope s_put_together) f cdv A outer s H E) rfl
  have tk0 : Takes (cxOf (L2.CX P w) P w K mg base ["some", "base", "number", "figure"] "put_together" (defScope s_put_together) f cdv A outer s H E) (fun cls d _ H => E cls d H) := takes_of rfl rfl rfl rfl
  exact (pss_cons (ps_set (i := 2) sc.nd rfl (Or.inl rfl) pe_int)
    (pss_cons (ps_for po rfl (pi_list (pv 0)) (pg_name (i := 3) sc.nd rfl (Or.inl rfl)) (pss_one (ps_set (i := 2) sc.nd rfl (Or.inl rfl) (pe_op op_add (pe_op op_mul (pv 2) (pv 1)) (pv 3)))))
    (pss_one (ps_ret (pv 2)))))
theorem c_half_of {f : Addr} {fd : FuncData} (F : Fun K "half_of" "half_of" s_half_of f fd) (B : Binds K fd ["number", "base"] []) (hm : mg "half_of" = some (.ref f)) (bi_len : mg "len" = none) (c_figures_of : Cal P w K mg base 1 "figures_of" (sp_figures_of K C)) (c_put_together : Cal P w K mg base 1 "put_together" (sp_put_together K C)) : Cal P w K mg base 2 "half_of" (sp_half_of K C) := by
  refine ⟨f, hm, F.kp, fg_of F sc_half_of B (fun vs H Q E h => by (repeat (rcases h with ⟨_, h⟩)) <;> (subst_vars; rfl)) (fun cdv A outer s H vs Q E hr h => ⟨t_half_of K C E, ?_, rd_half_of  h⟩)⟩
  have sc := sc_half_of
  have po := passes_of (X := cxOf (L2.CX P w) P w K mg base ["number", "base", "some"] "half_of" (defScope s_half_of) f cdv A outer s H E) rfl
  have tk0 : Takes (cxOf (L2.CX P w) P w K mg base ["number", "base", "some"] "half_of" (defScope s_half_of) f cdv A outer s H E) (fun cls d _ H => E cls d H) := takes_of rfl rfl rfl rfl
  exact (pss_cons (ps_set (i := 2) sc.nd rfl (Or.inl rfl) (pe_go c_figures_of (hr.mono (by decide)) pas0 (pa_cons (pv 0) (pa_cons (pv 1) pa_nil))))
    (pss_one (ps_ret (pe_tup (pa_cons (pe_callB call_len_seq (by rfl) bi_len (by decide +kernel) (pa_cons (pv 2) pa_nil)) (pa_cons (pe_go c_put_together (hr.mono (by decide)) pas0 (pa_cons (pe_slice sl_list (pv 2) po_none (po_some (pe_op op_fdiv (pe_op op_add (pe_callB call_len_seq (by rfl) bi_len (by decide +kernel) (pa_cons (pv 2) pa_nil)) pe_int) pe_int))) (pa_cons (pv 1) pa_nil))) pa_nil))))))
theorem c_mirror_of {f : Addr} {fd : FuncData} (F : Fun K "mirror_of" "mirror_of" s_mirror_of f fd) (B : Binds K fd ["half", "size", "base"] []) (hm : mg "mirror_of" = some (.ref f)) (c_figures_of : Cal P w K mg base 1 "figures_of" (sp_figures_of K C)) (c_put_together : Cal P w K mg base 1 "put_together" (sp_put_together K C)) : Cal P w K mg base 2 "mirror_of" (sp_mirror_of K C) := by
  refine ⟨f, hm, F.kp, fg_of F sc_mirror_of B (fun vs H Q E h => by (repeat (rcases h with ⟨_, h⟩)) <;> (subst_vars; rfl)) (fun cdv A outer s H vs Q E hr h => ⟨t_mirror_of K C E, ?_, rd_mirror_of  h⟩)⟩
  have sc := sc_mirror_of
  have po := passes_of (X := cxOf (L2.CX P w) P w K mg base ["half", "size", "base", "some"] "mirror_of" (defScope s_mirror_of) f cdv A outer s H E) rfl
  have tk0 : Takes (cxOf (L2.CX P w) P w K mg base ["half", "size", "base", "some"] "mirror_of" (defScope s_mirror_of) f cdv A outer s H E) (fun cls d _ H => E cls d H) := takes_of rfl rfl rfl rfl
  exact (pss_cons (ps_set (i := 3) sc.nd rfl (Or.inl rfl) (pe_go c_figures_of (hr.mono (by decide)) pas0 (pa_cons (pv 0) (pa_cons (pv 2) pa_nil))))
    (pss_one (ps_ret (pe_go c_put_together (hr.mono (by decide)) pas0 (pa_cons (pe_op op_cat (pv 3) (pe_revL (pe_slice sl_list (pv 3) po_none (po_some (pe_op op_fdiv (pv 1) pe_int))))) (pa_cons (pv 2) pa_nil))))))
theorem c_power_of {f : Addr} {fd : FuncData} (F : Fun K "power_of" "power_of" s_power_of f fd) (B : Binds K fd ["base", "many"] []) (hm : mg "power_of" = some (.ref f)) (bi_range : mg "range" = none) : Cal P w K mg base 1 "power_of" (sp_power_of K C) := by
  refine ⟨f, hm, F.kp, fg_of F sc_power_of B (fun vs H Q E h => by (repeat (rcases h with ⟨_, h⟩)) <;> (subst_vars; rfl)) (fun cdv A outer s H vs Q E hr h => ⟨t_power_of K C E, ?_, rd_power_of  h⟩)⟩
  have sc := sc_power_of
  have po := passes_of (X := cxOf (L2.CX P w) P w K mg base ["base", "many", "found", "turn"] "power_of" (defScope s_power_of) f cdv A outer s H E) rfl
  have tk0 : Takes (cxOf (L2.CX P w) P w K mg base ["base", "many", "found", "turn"] "power_of" (defScope s_power_of) f cdv A outer s H E) (fun cls d _ H => E cls d H) := takes_of rfl rfl rfl rfl
  exact (pss_cons (ps_set (i := 2) sc.nd rfl (Or.inl rfl) pe_int)
    (pss_cons (ps_for po rfl (pi_range1 rfl bi_range (pa_cons (pv 1) pa_nil)) (pg_name (i := 3) sc.nd rfl (Or.inl rfl)) (pss_one (ps_aug (i := 2) sc.nd rfl (Or.inl rfl) (pv 0) (ip_of iop_mul))))
    (pss_one (ps_ret (pv 2)))))
theorem c_at_most {f : Addr} {fd : FuncData} (F : Fun K "at_most" "at_most" s_at_most f fd) (B : Binds K fd ["number", "base"] []) (hm : mg "at_most" = some (.ref f)) (c_need_base : Cal P w K mg base 2 "need_base" (sp_need_base K C)) (c_half_of : Cal P w K mg base 2 "half_of" (sp_half_of K C)) (c_mirror_of : Cal P w K mg base 2 "mirror_of" (sp_mirror_of K C)) (c_power_of : Cal P w K mg base 1 "power_of" (sp_power_of K C)) : Cal P w K mg base 3 "at_most" (sp_at_most K C) := by
  refine ⟨f, hm, F.kp, fg_of F sc_at_most B (fun vs H Q E h => by (repeat (rcases h with ⟨_, h⟩)) <;> (subst_vars; rfl)) (fun cdv A outer s H vs Q E hr h => ⟨t_at_most K C E, ?_, rd_at_most  h⟩)⟩
  have sc := sc_at_most
  have po := passes_of (X := cxOf (L2.CX P w) P w K mg base ["number", "base", "size", "half"] "at_most" (defScope s_at_most) f cdv A outer s H E) rfl
  have tk0 : Takes (cxOf (L2.CX P w) P w K mg base ["number", "base", "size", "half"] "at_most" (defScope s_at_most) f cdv A outer s H E) (fun cls d _ H => E cls d H) := takes_of rfl rfl rfl rfl
  exact (pss_cons (ps_expr (pe_go c_need_base (hr.mono (by decide)) (pasE (passes_call tk0 (fun _ _ _ _ h => h))) (pa_cons (pv 1) pa_nil)))
    (pss_cons (ps_asg (pe_go c_half_of (hr.mono (by decide)) pas0 (pa_cons (pv 0) (pa_cons (pv 1) pa_nil))) (pg_tup rfl (pgs_cons (pg_name (i := 2) sc.nd rfl (Or.inl rfl)) (pgs_cons (pg_name (i := 3) sc.nd rfl (Or.inl rfl)) pgs_nil))))
    (pss_cons (ps_if (pt_cmpR (op_le) (pe_go c_mirror_of (hr.mono (by decide)) pas0 (pa_cons (pv 3) (pa_cons (pv 2) (pa_cons (pv 1) pa_nil)))) (pv 0) (nomark _)) (pss_one (ps_ret (pe_go c_mirror_of (hr.mono (by decide)) pas0 (pa_cons (pv 3) (pa_cons (pv 2) (pa_cons (pv 1) pa_nil)))))) pss_nil)
    (pss_cons (ps_if (pt_cmpR (op_eq) (pv 3) (pe_go c_power_of (hr.mono (by decide)) pas0 (pa_cons (pv 1) (pa_cons (pe_op op_fdiv (pe_op op_sub (pv 2) pe_int) pe_int) pa_nil))) (nomark _)) (pss_one (ps_ret (pe_op op_sub (pe_go c_power_of (hr.mono (by decide)) pas0 (pa_cons (pv 1) (pa_cons (pe_op op_sub (pv 2) pe_int) pa_nil))) pe_int))) pss_nil)
    (pss_one (ps_ret (pe_go c_mirror_of (hr.mono (by decide)) pas0 (pa_cons (pe_op op_sub (pv 3) pe_int) (pa_cons (pv 2) (pa_cons (pv 1) pa_nil))))))))))
theorem c_is_mirrored {f : Addr} {fd : FuncData} (F : Fun K "is_mirrored" "is_mirrored" s_is_mirrored f fd) (B : Binds K fd ["thing", "base"] []) (hm : mg "is_mirrored" = some (.ref f)) (c_need_base : Cal P w K mg base 2 "need_base" (sp_need_base K C)) (c_is_whole : Cal P w K mg base 1 "is_whole" (sp_is_whole K C)) (c_figures_of : Cal P w K mg base 1 "figures_of" (sp_figures_of K C)) : Cal P w K mg base 3 "is_mirrored" (sp_is_mirrored K C) := by
  refine ⟨f, hm, F.kp, fg_of F sc_is_mirrored B (fun vs H Q E h => by (repeat (rcases h with ⟨_, h⟩)) <;> (subst_vars; rfl)) (fun cdv A outer s H vs Q E hr h => ⟨t_is_mirrored K C E, ?_, rd_is_mirrored  h⟩)⟩
  have sc := sc_is_mirrored
  have po := passes_of (X := cxOf (L2.CX P w) P w K mg base ["thing", "base", "some"] "is_mirrored" (defScope s_is_mirrored) f cdv A outer s H E) rfl
  have tk0 : Takes (cxOf (L2.CX P w) P w K mg base ["thing", "base", "some"] "is_mirrored" (defScope s_is_mirrored) f cdv A outer s H E) (fun cls d _ H => E cls d H) := takes_of rfl rfl rfl rfl
  exact (pss_cons (ps_expr (pe_go c_need_base (hr.mono (by decide)) (pasE (passes_call tk0 (fun _ _ _ _ h => h))) (pa_cons (pv 1) pa_nil)))
    (pss_cons (ps_if (PW.pt (pw_or (pt_not (pt_val (pe_go c_is_whole (hr.mono (by decide)) pas0 (pa_cons (pv 0) pa_nil)))) (pw_or1 (pt_cmpR (op_lt) (pv 0) pe_int (nomark _))))) (pss_one (ps_ret pe_bl)) pss_nil)
    (pss_cons (ps_set (i := 2) sc.nd rfl (Or.inl rfl) (pe_go c_figures_of (hr.mono (by decide)) pas0 (pa_cons (pv 0) (pa_cons (pv 1) pa_nil))))
    (pss_one (ps_ret (pe_cmpR (op_eqLI hr) (pv 2) (pe_revL (pv 2)) (nomark _)))))))
theorem c_some_by_two {f : Addr} {fd : FuncData} (F : Fun K "some_by_two" "some_by_two" s_some_by_two f fd) (B : Binds K fd ["number", "base", "most"] []) (hm : mg "some_by_two" = some (.ref f)) (bi_max : mg "max" = none) (bi_len : mg "len" = none) (c_at_most : Cal P w K mg base 3 "at_most" (sp_at_most K C)) (c_is_mirrored : Cal P w K mg base 3 "is_mirrored" (sp_is_mirrored K C)) : Cal P w K mg base 4 "some_by_two" (sp_some_by_two K C) := by
  refine ⟨f, hm, F.kp, fg_of F sc_some_by_two B (fun vs H Q E h => by (repeat (rcases h with ⟨_, h⟩)) <;> (subst_vars; rfl)) (fun cdv A outer s H vs Q E hr h => ⟨t_some_by_two K C E, ?_, rd_some_by_two  h⟩)⟩
  have sc := sc_some_by_two
  have po := passes_of (X := cxOf (L2.CX P w) P w K mg base ["number", "base", "most", "found", "one"] "some_by_two" (defScope s_some_by_two) f cdv A outer s H E) rfl
  have tk0 : Takes (cxOf (L2.CX P w) P w K mg base ["number", "base", "most", "found", "one"] "some_by_two" (defScope s_some_by_two) f cdv A outer s H E) (fun cls d _ H => E cls d H) := takes_of rfl rfl rfl rfl
  exact (pss_cons (ps_set (i := 3) sc.nd rfl (Or.inl rfl) (pe_lst pa_nil))
    (pss_cons (ps_set (i := 4) sc.nd rfl (Or.inl rfl) (pe_go c_at_most (hr.mono (by decide)) pas0 (pa_cons (pe_callB (call_max2 rfl) (by rfl) bi_max (by decide +kernel) (pa_cons pe_int (pa_cons (pe_op op_sub (pv 0) pe_int) pa_nil))) (pa_cons (pv 1) pa_nil))))
    (pss_cons (ps_while po (PW.pt (pw_and (pt_cmpR (op_ge) (pe_op op_mul pe_int (pv 4)) (pv 0) (nomark _)) (pw_and (pt_cmpR (op_gt) (pv 4) pe_int (nomark _)) (pw_and1 (pt_cmpR (op_lt) (pe_callB call_len_seq (by rfl) bi_len (by decide +kernel) (pa_cons (pv 3) pa_nil)) (pv 2) (nomark _)))))) (Evl.pss_cut (ps_if (pt_val (pe_go c_is_mirrored (hr.mono (by decide)) pas0 (pa_cons (pe_op op_sub (pv 0) (pv 4)) (pa_cons (pv 1) pa_nil)))) (pss_one (ps_expr (pe_bm PySem.F.plainAttrs_list PySem.F.slot_list_append PySem.F.type_list_append mt_append (pv 3) (pa_cons (pe_lst (pa_cons (pv 4) (pa_cons (pe_op op_sub (pv 0) (pv 4)) pa_nil))) pa_nil)))) pss_nil)
    (pss_one (ps_set (i := 4) sc.nd rfl (Or.inl rfl) (pe_go c_at_most (hr.mono (by decide)) pas0 (pa_cons (pe_op op_sub (pv 4) pe_int) (pa_cons (pv 1) pa_nil)))))))
    (pss_one (ps_ret (pv 3))))))
theorem c_by_two {f : Addr} {fd : FuncData} (F : Fun K "by_two" "by_two" s_by_two f fd) (B : Binds K fd ["number", "base"] []) (hm : mg "by_two" = some (.ref f)) (c_need_base : Cal P w K mg base 2 "need_base" (sp_need_base K C)) (c_some_by_two : Cal P w K mg base 4 "some_by_two" (sp_some_by_two K C)) : Cal P w K mg base 5 "by_two" (sp_by_two K C) := by
  refine ⟨f, hm, F.kp, fg_of F sc_by_two B (fun vs H Q E h => by (repeat (rcases h with ⟨_, h⟩)) <;> (subst_vars; rfl)) (fun cdv A outer s H vs Q E hr h => ⟨t_by_two K C E, ?_, rd_by_two  h⟩)⟩
  have sc := sc_by_two
  have po := passes_of (X := cxOf (L2.CX P w) P w K mg base ["number", "base"] "by_two" (defScope s_by_two) f cdv A outer s H E) rfl
  have tk0 : Takes (cxOf (L2.CX P w) P w K mg base ["number", "base"] "by_two" (defScope s_by_two) f cdv A outer s H E) (fun cls d _ H => E cls d H) := takes_of rfl rfl rfl rfl
  exact (pss_cons (ps_expr (pe_go c_need_base (hr.mono (by decide)) (pasE (passes_call tk0 (fun _ _ _ _ h => h))) (pa_cons (pv 1) pa_nil)))
    (pss_one (ps_ret (pe_go c_some_by_two (hr.mono (by decide)) pas0 (pa_cons (pv 0) (pa_cons (pv 1) (pa_cons (pv 0) pa_nil)))))))
theorem c_many_by_two {f : Addr} {fd : FuncData} (F : Fun K "many_by_two" "many_by_two" s_many_by_two f fd) (B : Binds K fd ["number", "base"] []) (hm : mg "many_by_two" = some (.ref f)) (bi_len : mg "len" = none) (c_by_two : Cal P w K mg base 5 "by_two" (sp_by_two K C)) : Cal P w K mg base 6 "many_by_two" (sp_many_by_two K C) := by
  refine ⟨f, hm, F.kp, fg_of F sc_many_by_two B (fun vs H Q E h => by (repeat (rcases h with ⟨_, h⟩)) <;> (subst_vars; rfl)) (fun cdv A outer s H vs Q E hr h => ⟨t_many_by_two K C E, ?_, rd_many_by_two  h⟩)⟩
  have sc := sc_many_by_two
  have po := passes_of (X := cxOf (L2.CX P w) P w K mg base ["number", "base"] "many_by_two" (defScope s_many_by_two) f cdv A outer s H E) rfl
  have tk0 : Takes (cxOf (L2.CX P w) P w K mg base ["number", "base"] "many_by_two" (defScope s_many_by_two) f cdv A outer s H E) (fun cls d _ H => E cls d H) := takes_of rfl rfl rfl rfl
  exact (pss_one (ps_ret (pe_callB call_len_seq (by rfl) bi_len (by decide +kernel) (pa_cons (pe_go c_by_two (hr.mono (by decide)) (pasE (passes_call tk0 (fun _ _ _ _ h => h))) (pa_cons (pv 0) (pa_cons (pv 1) pa_nil))) pa_nil))))
theorem c_first_by_two {f : Addr} {fd : FuncData} (F : Fun K "first_by_two" "first_by_two" s_first_by_two f fd) (B : Binds K fd ["number", "base"] []) (hm : mg "first_by_two" = some (.ref f)) (c_need_base : Cal P w K mg base 2 "need_base" (sp_need_base K C)) (c_some_by_two : Cal P w K mg base 4 "some_by_two" (sp_some_by_two K C)) : Cal P w K mg base 5 "first_by_two" (sp_first_by_two K C) := by
  refine ⟨f, hm, F.kp, fg_of F sc_first_by_two B (fun vs H Q E h => by (repeat (rcases h with ⟨_, h⟩)) <;> (subst_vars; rfl)) (fun cdv A outer s H vs Q E hr h => ⟨t_first_by_two K C E, ?_, rd_first_by_two  h⟩)⟩
  have sc := sc_first_by_two
  have po := passes_of (X := cxOf (L2.CX P w) P w K mg base ["number", "base", "found"] "first_by_two" (defScope s_first_by_two) f cdv A outer s H E) rfl
  have tk0 : Takes (cxOf (L2.CX P w) P w K mg base ["number", "base", "found"] "first_by_two" (defScope s_first_by_two) f cdv A outer s H E) (fun cls d _ H => E cls d H) := takes_of rfl rfl rfl rfl
  exact (pss_cons (ps_expr (pe_go c_need_base (hr.mono (by decide)) (pasE (passes_call tk0 (fun _ _ _ _ h => h))) (pa_cons (pv 1) pa_nil)))
    (pss_cons (ps_set (i := 2) sc.nd rfl (Or.inl rfl) (pe_go c_some_by_two (hr.mono (by decide)) pas0 (pa_cons (pv 0) (pa_cons (pv 1) (pa_cons pe_int pa_nil)))))
    (pss_cons (ps_if (pt_cmpR (op_eqD (hu64 hr)) (pv 2) (pe_lst pa_nil) (nomark _)) (pss_one (ps_ret pe_non)) pss_nil)
    (pss_one (ps_ret (pe_ix ix_list (pv 2) pe_int (fun _ _ => rfl)))))))
theorem c__law_right {f : Addr} {fd : FuncData} (F : Fun K "_law_right" "_law_right" s__law_right f fd) (B : Binds K fd ["number", "base"] []) (hm : mg "_law_right" = some (.ref f)) (bi_len : mg "len" = none) (bi_sum : mg "sum" = none) (bi_zip : mg "zip" = none) (c_by_two : Cal P w K mg base 5 "by_two" (sp_by_two K C)) (c_many_by_two : Cal P w K mg base 6 "many_by_two" (sp_many_by_two K C)) (c_first_by_two : Cal P w K mg base 5 "first_by_two" (sp_first_by_two K C)) (c_is_mirrored : Cal P w K mg base 3 "is_mirrored" (sp_is_mirrored K C)) : Cal P w K mg base 7 "_law_right" (sp__law_right K C) := by
  refine ⟨f, hm, F.kp, fg_of F sc__law_right B (fun vs H Q E h => by (repeat (rcases h with ⟨_, h⟩)) <;> (subst_vars; rfl)) (fun cdv A outer s H vs Q E hr h => ⟨t__law_right K C E, ?_, rd__law_right  h⟩)⟩
  have sc := sc__law_right
  have po := passes_of (X := cxOf (L2.CX P w) P w K mg base ["number", "base", "ways", "way", "half", "one", "further"] "_law_right" (defScope s__law_right) f cdv A outer s H E) rfl
  have tk0 : Takes (cxOf (L2.CX P w) P w K mg base ["number", "base", "ways", "way", "half", "one", "further"] "_law_right" (defScope s__law_right) f cdv A outer s H E) (fun cls d _ H => E cls d H) := takes_of rfl rfl rfl rfl
  exact (pss_cons (ps_set (i := 2) sc.nd rfl (Or.inl rfl) (pe_go c_by_two (hr.mono (by decide)) pas0 (pa_cons (pv 0) (pa_cons (pv 1) pa_nil))))
    (pss_cons (ps_if (pt_cmpR (op_ne) (pe_callB call_len_seq (by rfl) bi_len (by decide +kernel) (pa_cons (pv 2) pa_nil)) (pe_go c_many_by_two (hr.mono (by decide)) pas0 (pa_cons (pv 0) (pa_cons (pv 1) pa_nil))) (nomark _)) (pss_one (ps_ret pe_bl)) pss_nil)
    (pss_cons (ps_if (pt_cmpR (op_neD (hu64 hr)) (pe_go c_first_by_two (hr.mono (by decide)) pas0 (pa_cons (pv 0) (pa_cons (pv 1) pa_nil))) (pe_ix ix_list (pe_op op_cat (pv 2) (pe_lst (pa_cons pe_non pa_nil))) pe_int (fun _ _ => rfl)) (nomark _)) (pss_one (ps_ret pe_bl)) pss_nil)
    (pss_cons (ps_for po rfl (pi_list (pv 2)) (pg_name (i := 3) sc.nd rfl (Or.inl rfl)) (pss_cons (ps_if (PW.pt (pw_or (pt_cmpR (op_ne) (pe_callB call_len_seq (by rfl) bi_len (by decide +kernel) (pa_cons (pv 3) pa_nil)) pe_int (nomark _)) (pw_or (pt_cmpR (op_ne) (pe_callB (cr_sum rfl) (by rfl) bi_sum (by decide +kernel) (pa_cons (pv 3) pa_nil)) (pv 0) (nomark _)) (pw_or (pt_cmpR (op_lt) (pe_ix ix_list (pv 3) pe_int (fun _ _ => rfl)) pe_int (nomark _)) (pw_or1 (pt_cmpR (op_lt) (pe_ix ix_list (pv 3) pe_int (fun _ _ => rfl)) (pe_ix ix_list (pv 3) pe_int (fun _ _ => rfl)) (nomark _))))))) (pss_one (ps_ret pe_bl)) pss_nil)
    (pss_one (ps_if (PW.pt (pw_or (pt_cmpR (op_notBl) (pe_go c_is_mirrored (hr.mono (by decide)) pas0 (pa_cons (pe_ix ix_list (pv 3) pe_int (fun _ _ => rfl)) (pa_cons (pv 1) pa_nil))) pe_bl (nomark _)) (pw_or1 (pt_cmpR (op_notBl) (pe_go c_is_mirrored (hr.mono (by decide)) pas0 (pa_cons (pe_ix ix_list (pv 3) pe_int (fun _ _ => rfl)) (pa_cons (pv 1) pa_nil))) pe_bl (nomark _))))) (pss_one (ps_ret pe_bl)) pss_nil))))
    (pss_cons (ps_if (pt_cmpR (op_neLI hr) (pe_lc (own := [("one", 5), ("further", 6)]) rfl sc.nd (pi_zip rfl bi_zip (pa_cons (pv 2) (pa_cons (pe_slice sl_list (pv 2) (po_some pe_int) po_none) pa_nil))) (blkOk_by (N := ["number", "base", "ways", "way", "half", "one", "further"]) (sc := defScope s__law_right) (by decide +kernel)) (fun _ _ _ _ _ => (pg_tup rfl (pgs_cons (pg_name (i := 5) sc.nd rfl (by first | exact Or.inl rfl | exact Or.inr rfl)) (pgs_cons (pg_name (i := 6) sc.nd rfl (by first | exact Or.inl rfl | exact Or.inr rfl)) pgs_nil)))) (fun _ _ _ _ _ => (pts_one (pt_cmpR (op_ge) (pe_ix ix_list (pv 6) pe_int (fun _ _ => rfl)) (pe_ix ix_list (pv 5) pe_int (fun _ _ => rfl)) (nomark _)))) (fun _ _ _ _ _ => pe_int)) (pe_lst pa_nil) (nomark _)) (pss_one (ps_ret pe_bl)) pss_nil)
    (pss_cons (ps_set (i := 4) sc.nd rfl (Or.inl rfl) (pe_op op_fdiv (pv 0) pe_int))
    (pss_one (ps_ret (pe_or (pe_cmpR (op_eq) (pe_op op_mod (pv 0) pe_int) pe_int (nomark _)) (pe_or (pe_cmpR (op_eq) (pv 0) pe_int (nomark _)) (pe_one (pe_cmpR (op_eq) (pe_cmpR ((op_inD (hu65 hr))) (pe_lst (pa_cons (pv 4) (pa_cons (pv 4) pa_nil))) (pv 2) (by with_unfolding_all rfl)) (pe_go c_is_mirrored (hr.mono (by decide)) pas0 (pa_cons (pv 4) (pa_cons (pv 1) pa_nil))) (nomark _)))))))))))))
theorem c_law {f : Addr} {fd : FuncData} (F : Fun K "law" "law" s_law f fd) (B : Binds K fd ["script"] []) (hm : mg "law" = some (.ref f)) (bi_min : mg "min" = none) (bi_len : mg "len" = none) (bi_int : mg "int" = none) (bi_range : mg "range" = none) (bi_sorted : mg "sorted" = none) (bi_sum : mg "sum" = none) (c__law_cells : Cal P w K mg base 1 "_law_cells" (sp__law_cells K C)) (c__law_hand : Cal P w K mg base 1 "_law_hand" (sp__law_hand K C)) (c__law_base : Cal P w K mg base 2 "_law_base" (sp__law_base K C)) (c__law_draw : Cal P w K mg base 1 "_law_draw" (sp__law_draw K C)) (c__law_number : Cal P w K mg base 4 "_law_number" (sp__law_number K C)) (c__law_right : Cal P w K mg base 7 "_law_right" (sp__law_right K C)) (c__law_figures : Cal P w K mg base 1 "_law_figures" (sp__law_figures K C)) (c__law_mirrored : Cal P w K mg base 3 "_law_mirrored" (sp__law_mirrored K C)) (c_by_two : Cal P w K mg base 5 "by_two" (sp_by_two K C)) : Cal P w K mg base 8 "law" (sp_law K C) := by
  refine ⟨f, hm, F.kp, fg_of F sc_law B (fun vs H Q E h => by (repeat (rcases h with ⟨_, h⟩)) <;> (subst_vars; rfl)) (fun cdv A outer s H vs Q E hr h => ⟨t_law K C E, ?_, rd_law  h⟩)⟩
  have sc := sc_law
  have po := passes_of (X := cxOf (L2.CX P w) P w K mg base ["script", "k", "cell", "hand", "base", "number", "size", "both", "ways", "j"] "law" (defScope s_law) f cdv A outer s H E) rfl
  have tk0 : Takes (cxOf (L2.CX P w) P w K mg base ["script", "k", "cell", "hand", "base", "number", "size", "both", "ways", "j"] "law" (defScope s_law) f cdv A outer s H E) (fun cls d _ H => E cls d H) := takes_of rfl rfl rfl rfl
  exact (pss_cons (ps_for po rfl (pi_list (pe_go c__law_cells (hr.mono (by decide)) pas0 (pa_cons (pv 0) (pa_cons pe_int pa_nil)))) (pg_tup rfl (pgs_cons (pg_name (i := 1) sc.nd rfl (Or.inl rfl)) (pgs_cons (pg_name (i := 2) sc.nd rfl (Or.inl rfl)) pgs_nil))) (pss_cons (ps_set (i := 3) sc.nd rfl (Or.inr rfl) (pe_go c__law_hand (hr.mono (by decide)) pas0 (pa_cons (pv 2) (pa_cons (pv 1) pa_nil))))
    (pss_cons (ps_set (i := 4) sc.nd rfl (Or.inr rfl) (pe_go c__law_base (hr.mono (by decide)) pas0 (pa_cons (pv 3) pa_nil)))
    (pss_cons (ps_set (i := 5) sc.nd rfl (Or.inl rfl) (pe_go c__law_draw (hr.mono (by decide)) pas0 (pa_cons (pv 3) (pa_cons pe_int pa_nil))))
    (Evl.pss_cut (ps_if (pt_cmpR (op_lt) (pv 1) pe_int (nomark _)) (pss_one (ps_set (i := 5) sc.nd rfl (Or.inl rfl) (pe_go c__law_number (hr.mono (by decide)) pas0 (pa_cons (pv 3) (pa_cons (pv 4) (pa_cons (pe_op op_pow pe_int pe_int) pa_nil)))))) pss_nil)
    (pss_cons (ps_if (pt_not (pt_val (pe_go c__law_right (hr.mono (by decide)) pas0 (pa_cons (pv 5) (pa_cons (pv 4) pa_nil))))) (pss_one (ps_ret pe_bl)) pss_nil)
    (pss_cons (ps_set (i := 6) sc.nd rfl (Or.inr rfl) (pe_ix ix_list (pe_lst (pa_cons (pe_op op_sub (pe_callB call_len_seq (by rfl) bi_len (by decide +kernel) (pa_cons (pe_go c__law_figures (hr.mono (by decide)) pas0 (pa_cons (pe_op op_pow pe_int pe_int) (pa_cons (pv 4) pa_nil))) pa_nil)) pe_int) (pa_cons (pe_callB (call_min2 rfl) (by rfl) bi_min (by decide +kernel) (pa_cons pe_int (pa_cons (pe_callB call_len_seq (by rfl) bi_len (by decide +kernel) (pa_cons (pe_go c__law_figures (hr.mono (by decide)) pas0 (pa_cons pe_int (pa_cons (pv 4) pa_nil))) pa_nil)) pa_nil))) pa_nil))) (pe_callTy call_int1 (by rfl) bi_int (by decide +kernel) (pa_cons (pe_cmpR (op_gt) (pv 1) pe_int (nomark _)) pa_nil)) (fun _ _ => rfl)))
    (pss_cons (ps_setLc (i := 7) (own := [("j", 9)]) rfl sc.nd rfl rfl (sw_true rfl rfl rfl (by decide +kernel)) (pi_range1 rfl bi_range (pa_cons pe_int pa_nil)) (blkOk_by (N := ["script", "k", "cell", "hand", "base", "number", "size", "both", "ways", "j"]) (sc := defScope s_law) (by decide +kernel)) (fun _ _ _ _ _ => (pg_name (i := 9) sc.nd rfl (by first | exact Or.inl rfl | exact Or.inr rfl))) (fun _ _ _ _ _ => pts_nil) (fun _ _ _ _ _ => (pe_go c__law_mirrored (hr.mono (by decide)) pas0 (pa_cons (pv 3) (pa_cons (pv 4) (pa_cons (pe_op op_add pe_int (pe_go c__law_draw (hr.mono (by decide)) pas0 (pa_cons (pv 3) (pa_cons (pv 6) pa_nil)))) pa_nil))))))
    (pss_cons (ps_set (i := 7) sc.nd rfl (Or.inl rfl) (pe_revL (pe_callB cr_sortedI (by rfl) bi_sorted (by decide +kernel) (pa_cons (pv 7) pa_nil))))
    (pss_one (ps_if (pt_cmpR (op_le) (pe_callB (cr_sum rfl) (by rfl) bi_sum (by decide +kernel) (pa_cons (pv 7) pa_nil)) (pe_op op_pow pe_int pe_int) (nomark _)) (pss_cons (ps_set (i := 8) sc.nd rfl (Or.inl rfl) (pe_go c_by_two (hr.mono (by decide)) pas0 (pa_cons (pe_callB (cr_sum rfl) (by rfl) bi_sum (by decide +kernel) (pa_cons (pv 7) pa_nil)) (pa_cons (pv 4) pa_nil))))
    (pss_cons (ps_if (PW.pt (pw_or (pt_cmpR (op_ne) (pe_bm PySem.F.plainAttrs_list PySem.F.slot_list_count PySem.F.type_list_count (mt_countD (hu65 hr)) (pv 8) (pa_cons (pv 7) pa_nil)) pe_int (nomark _)) (pw_or1 (pt_not (pt_val (pe_go c__law_right (hr.mono (by decide)) pas0 (pa_cons (pe_callB (cr_sum rfl) (by rfl) bi_sum (by decide +kernel) (pa_cons (pv 7) pa_nil)) (pa_cons (pv 4) pa_nil)))))))) (pss_one (ps_ret pe_bl)) pss_nil)
    (pss_one (ps_if (PW.pt (pw_or (pt_cmpR (op_neD (hu64 hr)) (pe_go c_by_two (hr.mono (by decide)) pas0 (pa_cons (pv 5) (pa_cons (pv 4) pa_nil))) (pe_go c_by_two (hr.mono (by decide)) pas0 (pa_cons (pv 5) (pa_cons (pv 4) pa_nil))) (nomark _)) (pw_or1 (pt_cmpR (op_neD (hu64 hr)) (pv 8) (pe_go c_by_two (hr.mono (by decide)) pas0 (pa_cons (pe_callB (cr_sum rfl) (by rfl) bi_sum (by decide +kernel) (pa_cons (pv 7) pa_nil)) (pa_cons (pv 4) pa_nil))) (nomark _))))) (pss_one (ps_ret pe_bl)) pss_nil)))) pss_nil)))))))))))
    (pss_one (ps_ret pe_bl)))
theorem all_mk {l : PySem.W.OpenLaw} {w : World} {K : PySem.W.Frag} {h : Heap} {mg : Str → Option Value} {fa f1 f2 f3 f4 f5 f6 f7 f8 f9 f10 f11 f12 f13 f14 f15 f16 f17 f18 f19 f20 f21 f22 f23 f24 f25 e_NoBase : Addr} (X : K.In h) (G : h.Ns mainGlobals mg) (hfa : mg "law" = some (.ref fa))
    {od1 an1 : Option Addr} {sl1 : Array (Option Value)} {oc1 kV1 dc1 pm1 cd1 ct1 : Value} {od2 an2 : Option Addr} {sl2 : Array (Option Value)} {oc2 kV2 dc2 pm2 cd2 ct2 : Value} {od3 an3 : Option Addr} {sl3 : Array (Option Value)} {oc3 kV3 dc3 pm3 cd3 ct3 : Value} {od4 an4 : Option Addr} {sl4 : Array (Option Value)} {oc4 kV4 dc4 pm4 cd4 ct4 : Value} {od5 an5 : Option Addr} {sl5 : Array (Option Value)} {oc5 kV5 dc5 pm5 cd5 ct5 : Value} {od6 an6 : Option Addr} {sl6 : Array (Option Value)} {oc6 kV6 dc6 pm6 cd6 ct6 : Value} {od7 an7 : Option Addr} {sl7 : Array (Option Value)} {oc7 kV7 dc7 pm7 cd7 ct7 : Value} {od8 an8 : Option Addr} {sl8 : Array (Option Value)} {oc8 kV8 dc8 pm8 cd8 ct8 : Value} {od9 an9 : Option Addr} {sl9 : Array (Option Value)} {oc9 kV9 dc9 pm9 cd9 ct9 : Value} {od10 an10 : Option Addr} {sl10 : Array (Option Value)} {oc10 kV10 dc10 pm10 cd10 ct10 : Value} {od11 an11 : Option Addr} {sl11 : Array (Option Value)} {oc11 kV11 dc11 pm11 cd11 ct11 : Value} {od12 an12 : Option Addr} {sl12 : Array (Option Value)} {oc12 kV12 dc12 pm12 cd12 ct12 : Value} {od13 an13 : Option Addr} {sl13 : Array (Option Value)} {oc13 kV13 dc13 pm13 cd13 ct13 : Value} {od14 an14 : Option Addr} {sl14 : Array (Option Value)} {oc14 kV14 dc14 pm14 cd14 ct14 : Value} {od15 an15 : Option Addr} {sl15 : Array (Option Value)} {oc15 kV15 dc15 pm15 cd15 ct15 : Value} {od16 an16 : Option Addr} {sl16 : Array (Option Value)} {oc16 kV16 dc16 pm16 cd16 ct16 : Value} {od17 an17 : Option Addr} {sl17 : Array (Option Value)} {oc17 kV17 dc17 pm17 cd17 ct17 : Value} {od18 an18 : Option Addr} {sl18 : Array (Option Value)} {oc18 kV18 dc18 pm18 cd18 ct18 : Value} {od19 an19 : Option Addr} {sl19 : Array (Option Value)} {oc19 kV19 dc19 pm19 cd19 ct19 : Value} {od20 an20 : Option Addr} {sl20 : Array (Option Value)} {oc20 kV20 dc20 pm20 cd20 ct20 : Value} {od21 an21 : Option Addr} {sl21 : Array (Option Value)} {oc21 kV21 dc21 pm21 cd21 ct21 : Value} {od22 an22 : Option Addr} {sl22 : Array (Option Value)} {oc22 kV22 dc22 pm22 cd22 ct22 : Value} {od23 an23 : Option Addr} {sl23 : Array (Option Value)} {oc23 kV23 dc23 pm23 cd23 ct23 : Value} {od24 an24 : Option Addr} {sl24 : Array (Option Value)} {oc24 kV24 dc24 pm24 cd24 ct24 : Value} {od25 an25 : Option Addr} {sl25 : Array (Option Value)} {oc25 kV25 dc25 pm25 cd25 ct25 : Value}
    (a1 : PySem.W.nsIn K mainGlobals "_law_cells" = some (some (.ref f1))) (l1 : K.lookup f1 = some ⟨oc1, od1, .func (PySem.W.fnOf "_law_cells" "_law_cells" (defArgs s__law_cells) (defBody s__law_cells) (defScope s__law_cells) .none kV1 dc1 pm1 an1 cd1 ct1), sl1⟩) (c1 : PySem.W.codeIn K cd1 "_law_cells" = true) (k1 : PySem.W.keepIn K (.ref f1) = true)
    (a2 : PySem.W.nsIn K mainGlobals "_law_hand" = some (some (.ref f2))) (l2 : K.lookup f2 = some ⟨oc2, od2, .func (PySem.W.fnOf "_law_hand" "_law_hand" (defArgs s__law_hand) (defBody s__law_hand) (defScope s__law_hand) .none kV2 dc2 pm2 an2 cd2 ct2), sl2⟩) (c2 : PySem.W.codeIn K cd2 "_law_hand" = true) (k2 : PySem.W.keepIn K (.ref f2) = true)
    (a3 : PySem.W.nsIn K mainGlobals "_law_draw" = some (some (.ref f3))) (l3 : K.lookup f3 = some ⟨oc3, od3, .func (PySem.W.fnOf "_law_draw" "_law_draw" (defArgs s__law_draw) (defBody s__law_draw) (defScope s__law_draw) .none kV3 dc3 pm3 an3 cd3 ct3), sl3⟩) (c3 : PySem.W.codeIn K cd3 "_law_draw" = true) (k3 : PySem.W.keepIn K (.ref f3) = true)
    (a4 : PySem.W.nsIn K mainGlobals "_law_base" = some (some (.ref f4))) (l4 : K.lookup f4 = some ⟨oc4, od4, .func (PySem.W.fnOf "_law_base" "_law_base" (defArgs s__law_base) (defBody s__law_base) (defScope s__law_base) .none kV4 dc4 pm4 an4 cd4 ct4), sl4⟩) (c4 : PySem.W.codeIn K cd4 "_law_base" = true) (k4 : PySem.W.keepIn K (.ref f4) = true)
    (a5 : PySem.W.nsIn K mainGlobals "_law_figures" = some (some (.ref f5))) (l5 : K.lookup f5 = some ⟨oc5, od5, .func (PySem.W.fnOf "_law_figures" "_law_figures" (defArgs s__law_figures) (defBody s__law_figures) (defScope s__law_figures) .none kV5 dc5 pm5 an5 cd5 ct5), sl5⟩) (c5 : PySem.W.codeIn K cd5 "_law_figures" = true) (k5 : PySem.W.keepIn K (.ref f5) = true)
    (a6 : PySem.W.nsIn K mainGlobals "_law_power" = some (some (.ref f6))) (l6 : K.lookup f6 = some ⟨oc6, od6, .func (PySem.W.fnOf "_law_power" "_law_power" (defArgs s__law_power) (defBody s__law_power) (defScope s__law_power) .none kV6 dc6 pm6 an6 cd6 ct6), sl6⟩) (c6 : PySem.W.codeIn K cd6 "_law_power" = true) (k6 : PySem.W.keepIn K (.ref f6) = true)
    (a7 : PySem.W.nsIn K mainGlobals "_law_wide" = some (some (.ref f7))) (l7 : K.lookup f7 = some ⟨oc7, od7, .func (PySem.W.fnOf "_law_wide" "_law_wide" (defArgs s__law_wide) (defBody s__law_wide) (defScope s__law_wide) .none kV7 dc7 pm7 an7 cd7 ct7), sl7⟩) (c7 : PySem.W.codeIn K cd7 "_law_wide" = true) (k7 : PySem.W.keepIn K (.ref f7) = true)
    (a8 : PySem.W.nsIn K mainGlobals "_law_value" = some (some (.ref f8))) (l8 : K.lookup f8 = some ⟨oc8, od8, .func (PySem.W.fnOf "_law_value" "_law_value" (defArgs s__law_value) (defBody s__law_value) (defScope s__law_value) .none kV8 dc8 pm8 an8 cd8 ct8), sl8⟩) (c8 : PySem.W.codeIn K cd8 "_law_value" = true) (k8 : PySem.W.keepIn K (.ref f8) = true)
    (a9 : PySem.W.nsIn K mainGlobals "_law_mirrored" = some (some (.ref f9))) (l9 : K.lookup f9 = some ⟨oc9, od9, .func (PySem.W.fnOf "_law_mirrored" "_law_mirrored" (defArgs s__law_mirrored) (defBody s__law_mirrored) (defScope s__law_mirrored) .none kV9 dc9 pm9 an9 cd9 ct9), sl9⟩) (c9 : PySem.W.codeIn K cd9 "_law_mirrored" = true) (k9 : PySem.W.keepIn K (.ref f9) = true)
    (a10 : PySem.W.nsIn K mainGlobals "_law_number" = some (some (.ref f10))) (l10 : K.lookup f10 = some ⟨oc10, od10, .func (PySem.W.fnOf "_law_number" "_law_number" (defArgs s__law_number) (defBody s__law_number) (defScope s__law_number) .none kV10 dc10 pm10 an10 cd10 ct10), sl10⟩) (c10 : PySem.W.codeIn K cd10 "_law_number" = true) (k10 : PySem.W.keepIn K (.ref f10) = true)
    (a11 : PySem.W.nsIn K mainGlobals "is_whole" = some (some (.ref f11))) (l11 : K.lookup f11 = some ⟨oc11, od11, .func (PySem.W.fnOf "is_whole" "is_whole" (defArgs s_is_whole) (defBody s_is_whole) (defScope s_is_whole) .none kV11 dc11 pm11 an11 cd11 ct11), sl11⟩) (c11 : PySem.W.codeIn K cd11 "is_whole" = true) (k11 : PySem.W.keepIn K (.ref f11) = true)
    (a12 : PySem.W.nsIn K mainGlobals "need_base" = some (some (.ref f12))) (l12 : K.lookup f12 = some ⟨oc12, od12, .func (PySem.W.fnOf "need_base" "need_base" (defArgs s_need_base) (defBody s_need_base) (defScope s_need_base) .none kV12 dc12 pm12 an12 cd12 ct12), sl12⟩) (c12 : PySem.W.codeIn K cd12 "need_base" = true) (k12 : PySem.W.keepIn K (.ref f12) = true)
    (a13 : PySem.W.nsIn K mainGlobals "figures_of" = some (some (.ref f13))) (l13 : K.lookup f13 = some ⟨oc13, od13, .func (PySem.W.fnOf "figures_of" "figures_of" (defArgs s_figures_of) (defBody s_figures_of) (defScope s_figures_of) .none kV13 dc13 pm13 an13 cd13 ct13), sl13⟩) (c13 : PySem.W.codeIn K cd13 "figures_of" = true) (k13 : PySem.W.keepIn K (.ref f13) = true)
    (a14 : PySem.W.nsIn K mainGlobals "put_together" = some (some (.ref f14))) (l14 : K.lookup f14 = some ⟨oc14, od14, .func (PySem.W.fnOf "put_together" "put_together" (defArgs s_put_together) (defBody s_put_together) (defScope s_put_together) .none kV14 dc14 pm14 an14 cd14 ct14), sl14⟩) (c14 : PySem.W.codeIn K cd14 "put_together" = true) (k14 : PySem.W.keepIn K (.ref f14) = true)
    (a15 : PySem.W.nsIn K mainGlobals "half_of" = some (some (.ref f15))) (l15 : K.lookup f15 = some ⟨oc15, od15, .func (PySem.W.fnOf "half_of" "half_of" (defArgs s_half_of) (defBody s_half_of) (defScope s_half_of) .none kV15 dc15 pm15 an15 cd15 ct15), sl15⟩) (c15 : PySem.W.codeIn K cd15 "half_of" = true) (k15 : PySem.W.keepIn K (.ref f15) = true)
    (a16 : PySem.W.nsIn K mainGlobals "mirror_of" = some (some (.ref f16))) (l16 : K.lookup f16 = some ⟨oc16, od16, .func (PySem.W.fnOf "mirror_of" "mirror_of" (defArgs s_mirror_of) (defBody s_mirror_of) (defScope s_mirror_of) .none kV16 dc16 pm16 an16 cd16 ct16), sl16⟩) (c16 : PySem.W.codeIn K cd16 "mirror_of" = true) (k16 : PySem.W.keepIn K (.ref f16) = true)
    (a17 : PySem.W.nsIn K mainGlobals "power_of" = some (some (.ref f17))) (l17 : K.lookup f17 = some ⟨oc17, od17, .func (PySem.W.fnOf "power_of" "power_of" (defArgs s_power_of) (defBody s_power_of) (defScope s_power_of) .none kV17 dc17 pm17 an17 cd17 ct17), sl17⟩) (c17 : PySem.W.codeIn K cd17 "power_of" = true) (k17 : PySem.W.keepIn K (.ref f17) = true)
    (a18 : PySem.W.nsIn K mainGlobals "at_most" = some (some (.ref f18))) (l18 : K.lookup f18 = some ⟨oc18, od18, .func (PySem.W.fnOf "at_most" "at_most" (defArgs s_at_most) (defBody s_at_most) (defScope s_at_most) .none kV18 dc18 pm18 an18 cd18 ct18), sl18⟩) (c18 : PySem.W.codeIn K cd18 "at_most" = true) (k18 : PySem.W.keepIn K (.ref f18) = true)
    (a19 : PySem.W.nsIn K mainGlobals "is_mirrored" = some (some (.ref f19))) (l19 : K.lookup f19 = some ⟨oc19, od19, .func (PySem.W.fnOf "is_mirrored" "is_mirrored" (defArgs s_is_mirrored) (defBody s_is_mirrored) (defScope s_is_mirrored) .none kV19 dc19 pm19 an19 cd19 ct19), sl19⟩) (c19 : PySem.W.codeIn K cd19 "is_mirrored" = true) (k19 : PySem.W.keepIn K (.ref f19) = true)
    (a20 : PySem.W.nsIn K mainGlobals "some_by_two" = some (some (.ref f20))) (l20 : K.lookup f20 = some ⟨oc20, od20, .func (PySem.W.fnOf "some_by_two" "some_by_two" (defArgs s_some_by_two) (defBody s_some_by_two) (defScope s_some_by_two) .none kV20 dc20 pm20 an20 cd20 ct20), sl20⟩) (c20 : PySem.W.codeIn K cd20 "some_by_two" = true) (k20 : PySem.W.keepIn K (.ref f20) = true)
    (a21 : PySem.W.nsIn K mainGlobals "by_two" = some (some (.ref f21))) (l21 : K.lookup f21 = some ⟨oc21, od21, .func (PySem.W.fnOf "by_two" "by_two" (defArgs s_by_two) (defBody s_by_two) (defScope s_by_two) .none kV21 dc21 pm21 an21 cd21 ct21), sl21⟩) (c21 : PySem.W.codeIn K cd21 "by_two" = true) (k21 : PySem.W.keepIn K (.ref f21) = true)
    (a22 : PySem.W.nsIn K mainGlobals "many_by_two" = some (some (.ref f22))) (l22 : K.lookup f22 = some ⟨oc22, od22, .func (PySem.W.fnOf "many_by_two" "many_by_two" (defArgs s_many_by_two) (defBody s_many_by_two) (defScope s_many_by_two) .none kV22 dc22 pm22 an22 cd22 ct22), sl22⟩) (c22 : PySem.W.codeIn K cd22 "many_by_two" = true) (k22 : PySem.W.keepIn K (.ref f22) = true)
    (a23 : PySem.W.nsIn K mainGlobals "first_by_two" = some (some (.ref f23))) (l23 : K.lookup f23 = some ⟨oc23, od23, .func (PySem.W.fnOf "first_by_two" "first_by_two" (defArgs s_first_by_two) (defBody s_first_by_two) (defScope s_first_by_two) .none kV23 dc23 pm23 an23 cd23 ct23), sl23⟩) (c23 : PySem.W.codeIn K cd23 "first_by_two" = true) (k23 : PySem.W.keepIn K (.ref f23) = true)
    (a24 : PySem.W.nsIn K mainGlobals "_law_right" = some (some (.ref f24))) (l24 : K.lookup f24 = some ⟨oc24, od24, .func (PySem.W.fnOf "_law_right" "_law_right" (defArgs s__law_right) (defBody s__law_right) (defScope s__law_right) .none kV24 dc24 pm24 an24 cd24 ct24), sl24⟩) (c24 : PySem.W.codeIn K cd24 "_law_right" = true) (k24 : PySem.W.keepIn K (.ref f24) = true)
    (a25 : PySem.W.nsIn K mainGlobals "law" = some (some (.ref f25))) (l25 : K.lookup f25 = some ⟨oc25, od25, .func (PySem.W.fnOf "law" "law" (defArgs s_law) (defBody s_law) (defScope s_law) .none kV25 dc25 pm25 an25 cd25 ct25), sl25⟩) (c25 : PySem.W.codeIn K cd25 "law" = true) (k25 : PySem.W.keepIn K (.ref f25) = true)
    (xNoBase : PySem.W.nsIn K mainGlobals "NoBase" = some (some (.ref e_NoBase))) (xxNoBase : PySem.W.excIn K e_NoBase [.type "ValueError", .type "Exception", .type "BaseException", .type "object"] "ValueError.__new__" = true) (xkNoBase : PySem.W.keepIn K (.ref e_NoBase) = true) (xbNoBase : PySem.W.subIn K (.ref e_NoBase) (.type "BaseException") = some true) (xtNoBase : PySem.W.typeIn K (.ref e_NoBase) = some (.type "type"))
    (zlist : PySem.W.nsIn K mainGlobals "list" = some none)
    (zenumerate : PySem.W.nsIn K mainGlobals "enumerate" = some none)
    (zint : PySem.W.nsIn K mainGlobals "int" = some none)
    (zrange : PySem.W.nsIn K mainGlobals "range" = some none)
    (zsum : PySem.W.nsIn K mainGlobals "sum" = some none)
    (zlen : PySem.W.nsIn K mainGlobals "len" = some none)
    (zmin : PySem.W.nsIn K mainGlobals "min" = some none)
    (zmax : PySem.W.nsIn K mainGlobals "max" = some none)
    (zisinstance : PySem.W.nsIn K mainGlobals "isinstance" = some none)
    (zbool : PySem.W.nsIn K mainGlobals "bool" = some none)
    (zzip : PySem.W.nsIn K mainGlobals "zip" = some none)
    (zsorted : PySem.W.nsIn K mainGlobals "sorted" = some none)
    : ∀ base : Heap, K.In base → base.Ns mainGlobals mg → Fg l.prog w K mg base 8 fa (sp_law K (clsAt mg)) := by
  have e := hfa.symm.trans (PySem.W.mg_of X G a25)
  cases e
  intro base _ _
  have ex_NoBase : Exc1 K mg (clsAt mg) "NoBase" := exc1_of (PySem.W.mg_of X G xNoBase) xxNoBase xkNoBase xbNoBase xtNoBase
  have bi_list := PySem.W.mg_none_of X G zlist
  have bi_enumerate := PySem.W.mg_none_of X G zenumerate
  have bi_int := PySem.W.mg_none_of X G zint
  have bi_range := PySem.W.mg_none_of X G zrange
  have bi_sum := PySem.W.mg_none_of X G zsum
  have bi_len := PySem.W.mg_none_of X G zlen
  have bi_min := PySem.W.mg_none_of X G zmin
  have bi_max := PySem.W.mg_none_of X G zmax
  have bi_isinstance := PySem.W.mg_none_of X G zisinstance
  have bi_bool := PySem.W.mg_none_of X G zbool
  have bi_zip := PySem.W.mg_none_of X G zzip
  have bi_sorted := PySem.W.mg_none_of X G zsorted
  have F1 := fun_mk (st := s__law_cells) l1 c1 k1
  have b1 := F1.binds (ps := ["script", "many"]) fun _ _ _ _ _ _ us hl => match us, hl with | [_, _], _ => rfl
  have h__law_cells : Cal l.prog w K mg base 1 "_law_cells" (sp__law_cells K (clsAt mg)) := c__law_cells F1 b1 (PySem.W.mg_of X G a1) bi_list bi_enumerate bi_int
  have F2 := fun_mk (st := s__law_hand) l2 c2 k2
  have b2 := F2.binds (ps := ["cell", "k"]) fun _ _ _ _ _ _ us hl => match us, hl with | [_, _], _ => rfl
  have h__law_hand : Cal l.prog w K mg base 1 "_law_hand" (sp__law_hand K (clsAt mg)) := c__law_hand F2 b2 (PySem.W.mg_of X G a2) 
  have F3 := fun_mk (st := s__law_draw) l3 c3 k3
  have b3 := F3.binds (ps := ["hand", "limit"]) fun _ _ _ _ _ _ us hl => match us, hl with | [_, _], _ => rfl
  have h__law_draw : Cal l.prog w K mg base 1 "_law_draw" (sp__law_draw K (clsAt mg)) := c__law_draw F3 b3 (PySem.W.mg_of X G a3) 
  have F4 := fun_mk (st := s__law_base) l4 c4 k4
  have b4 := F4.binds (ps := ["hand"]) fun _ _ _ _ _ _ us hl => match us, hl with | [_], _ => rfl
  have h__law_base : Cal l.prog w K mg base 2 "_law_base" (sp__law_base K (clsAt mg)) := c__law_base F4 b4 (PySem.W.mg_of X G a4) h__law_draw
  have F5 := fun_mk (st := s__law_figures) l5 c5 k5
  have b5 := F5.binds (ps := ["number", "base"]) fun _ _ _ _ _ _ us hl => match us, hl with | [_, _], _ => rfl
  have h__law_figures : Cal l.prog w K mg base 1 "_law_figures" (sp__law_figures K (clsAt mg)) := c__law_figures F5 b5 (PySem.W.mg_of X G a5) 
  have F6 := fun_mk (st := s__law_power) l6 c6 k6
  have b6 := F6.binds (ps := ["base", "many"]) fun _ _ _ _ _ _ us hl => match us, hl with | [_, _], _ => rfl
  have h__law_power : Cal l.prog w K mg base 1 "_law_power" (sp__law_power K (clsAt mg)) := c__law_power F6 b6 (PySem.W.mg_of X G a6) bi_range
  have F7 := fun_mk (st := s__law_wide) l7 c7 k7
  have b7 := F7.binds (ps := ["hand", "most"]) fun _ _ _ _ _ _ us hl => match us, hl with | [_, _], _ => rfl
  have h__law_wide : Cal l.prog w K mg base 2 "_law_wide" (sp__law_wide K (clsAt mg)) := c__law_wide F7 b7 (PySem.W.mg_of X G a7) bi_range h__law_draw
  have F8 := fun_mk (st := s__law_value) l8 c8 k8
  have b8 := F8.binds (ps := ["some", "base"]) fun _ _ _ _ _ _ us hl => match us, hl with | [_, _], _ => rfl
  have h__law_value : Cal l.prog w K mg base 2 "_law_value" (sp__law_value K (clsAt mg)) := c__law_value F8 b8 (PySem.W.mg_of X G a8) bi_sum bi_enumerate bi_len h__law_power
  have F9 := fun_mk (st := s__law_mirrored) l9 c9 k9
  have b9 := F9.binds (ps := ["hand", "base", "size"]) fun _ _ _ _ _ _ us hl => match us, hl with | [_, _, _], _ => rfl
  have h__law_mirrored : Cal l.prog w K mg base 3 "_law_mirrored" (sp__law_mirrored K (clsAt mg)) := c__law_mirrored F9 b9 (PySem.W.mg_of X G a9) bi_min bi_range h__law_draw h__law_value
  have F10 := fun_mk (st := s__law_number) l10 c10 k10
  have b10 := F10.binds (ps := ["hand", "base", "most"]) fun _ _ _ _ _ _ us hl => match us, hl with | [_, _, _], _ => rfl
  have h__law_number : Cal l.prog w K mg base 4 "_law_number" (sp__law_number K (clsAt mg)) := c__law_number F10 b10 (PySem.W.mg_of X G a10) bi_len bi_max bi_min h__law_draw h__law_figures h__law_power h__law_wide h__law_mirrored
  have F11 := fun_mk (st := s_is_whole) l11 c11 k11
  have b11 := F11.binds (ps := ["thing"]) fun _ _ _ _ _ _ us hl => match us, hl with | [_], _ => rfl
  have h_is_whole : Cal l.prog w K mg base 1 "is_whole" (sp_is_whole K (clsAt mg)) := c_is_whole F11 b11 (PySem.W.mg_of X G a11) bi_isinstance bi_int bi_bool
  have F12 := fun_mk (st := s_need_base) l12 c12 k12
  have b12 := F12.binds (ps := ["base"]) fun _ _ _ _ _ _ us hl => match us, hl with | [_], _ => rfl
  have h_need_base : Cal l.prog w K mg base 2 "need_base" (sp_need_base K (clsAt mg)) := c_need_base F12 b12 (PySem.W.mg_of X G a12) ex_NoBase h_is_whole
  have F13 := fun_mk (st := s_figures_of) l13 c13 k13
  have b13 := F13.binds (ps := ["number", "base"]) fun _ _ _ _ _ _ us hl => match us, hl with | [_, _], _ => rfl
  have h_figures_of : Cal l.prog w K mg base 1 "figures_of" (sp_figures_of K (clsAt mg)) := c_figures_of F13 b13 (PySem.W.mg_of X G a13) 
  have F14 := fun_mk (st := s_put_together) l14 c14 k14
  have b14 := F14.binds (ps := ["some", "base"]) fun _ _ _ _ _ _ us hl => match us, hl with | [_, _], _ => rfl
  have h_put_together : Cal l.prog w K mg base 1 "put_together" (sp_put_together K (clsAt mg)) := c_put_together F14 b14 (PySem.W.mg_of X G a14) 
  have F15 := fun_mk (st := s_half_of) l15 c15 k15
  have b15 := F15.binds (ps := ["number", "base"]) fun _ _ _ _ _ _ us hl => match us, hl with | [_, _], _ => rfl
  have h_half_of : Cal l.prog w K mg base 2 "half_of" (sp_half_of K (clsAt mg)) := c_half_of F15 b15 (PySem.W.mg_of X G a15) bi_len h_figures_of h_put_together
  have F16 := fun_mk (st := s_mirror_of) l16 c16 k16
  have b16 := F16.binds (ps := ["half", "size", "base"]) fun _ _ _ _ _ _ us hl => match us, hl with | [_, _, _], _ => rfl
  have h_mirror_of : Cal l.prog w K mg base 2 "mirror_of" (sp_mirror_of K (clsAt mg)) := c_mirror_of F16 b16 (PySem.W.mg_of X G a16) h_figures_of h_put_together
  have F17 := fun_mk (st := s_power_of) l17 c17 k17
  have b17 := F17.binds (ps := ["base", "many"]) fun _ _ _ _ _ _ us hl => match us, hl with | [_, _], _ => rfl
  have h_power_of : Cal l.prog w K mg base 1 "power_of" (sp_power_of K (clsAt mg)) := c_power_of F17 b17 (PySem.W.mg_of X G a17) bi_range
  have F18 := fun_mk (st := s_at_most) l18 c18 k18
  have b18 := F18.binds (ps := ["number", "base"]) fun _ _ _ _ _ _ us hl => match us, hl with | [_, _], _ => rfl
  have h_at_most : Cal l.prog w K mg base 3 "at_most" (sp_at_most K (clsAt mg)) := c_at_most F18 b18 (PySem.W.mg_of X G a18) h_need_base h_half_of h_mirror_of h_power_of
  have F19 := fun_mk (st := s_is_mirrored) l19 c19 k19
  have b19 := F19.binds (ps := ["thing", "base"]) fun _ _ _ _ _ _ us hl => match us, hl with | [_, _], _ => rfl
  have h_is_mirrored : Cal l.prog w K mg base 3 "is_mirrored" (sp_is_mirrored K (clsAt mg)) := c_is_mirrored F19 b19 (PySem.W.mg_of X G a19) h_need_base h_is_whole h_figures_of
  have F20 := fun_mk (st := s_some_by_two) l20 c20 k20
  have b20 := F20.binds (ps := ["number", "base", "most"]) fun _ _ _ _ _ _ us hl => match us, hl with | [_, _, _], _ => rfl
  have h_some_by_two : Cal l.prog w K mg base 4 "some_by_two" (sp_some_by_two K (clsAt mg)) := c_some_by_two F20 b20 (PySem.W.mg_of X G a20) bi_max bi_len h_at_most h_is_mirrored
  have F21 := fun_mk (st := s_by_two) l21 c21 k21
  have b21 := F21.binds (ps := ["number", "base"]) fun _ _ _ _ _ _ us hl => match us, hl with | [_, _], _ => rfl
  have h_by_two : Cal l.prog w K mg base 5 "by_two" (sp_by_two K (clsAt mg)) := c_by_two F21 b21 (PySem.W.mg_of X G a21) h_need_base h_some_by_two
  have F22 := fun_mk (st := s_many_by_two) l22 c22 k22
  have b22 := F22.binds (ps := ["number", "base"]) fun _ _ _ _ _ _ us hl => match us, hl with | [_, _], _ => rfl
  have h_many_by_two : Cal l.prog w K mg base 6 "many_by_two" (sp_many_by_two K (clsAt mg)) := c_many_by_two F22 b22 (PySem.W.mg_of X G a22) bi_len h_by_two
  have F23 := fun_mk (st := s_first_by_two) l23 c23 k23
  have b23 := F23.binds (ps := ["number", "base"]) fun _ _ _ _ _ _ us hl => match us, hl with | [_, _], _ => rfl
  have h_first_by_two : Cal l.prog w K mg base 5 "first_by_two" (sp_first_by_two K (clsAt mg)) := c_first_by_two F23 b23 (PySem.W.mg_of X G a23) h_need_base h_some_by_two
  have F24 := fun_mk (st := s__law_right) l24 c24 k24
  have b24 := F24.binds (ps := ["number", "base"]) fun _ _ _ _ _ _ us hl => match us, hl with | [_, _], _ => rfl
  have h__law_right : Cal l.prog w K mg base 7 "_law_right" (sp__law_right K (clsAt mg)) := c__law_right F24 b24 (PySem.W.mg_of X G a24) bi_len bi_sum bi_zip h_by_two h_many_by_two h_first_by_two h_is_mirrored
  have F25 := fun_mk (st := s_law) l25 c25 k25
  have b25 := F25.binds (ps := ["script"]) fun _ _ _ _ _ _ us hl => match us, hl with | [_], _ => rfl
  have h_law : Cal l.prog w K mg base 8 "law" (sp_law K (clsAt mg)) := c_law F25 b25 (PySem.W.mg_of X G a25) bi_min bi_len bi_int bi_range bi_sorted bi_sum h__law_cells h__law_hand h__law_base h__law_draw h__law_number h__law_right h__law_figures h__law_mirrored h_by_two
  obtain ⟨f, hm, _, R⟩ := h_law.ex
  have e2 := hm.symm.trans hfa
  cases e2
  exact R
end
end Mi
open PySem PySem.W PyProof.Rows
set_option maxRecDepth 100000 in
set_option maxHeartbeats 0 in
theorem PySem.Challenge.cw_mirrorsums_k16_whole_two_holds : PySem.Challenge.rw_mirrorsums_k16_whole_two.Holds := by
  w_on; o_law; k_head; (case hw => w_witness2)
  k_fill
  refine Mi.law_walk (l := PySem.Challenge.rw_mirrorsums_k16_whole_two) (n := 63) (k := 8) (sp := fun K => Mi.sp_law K (fun _ => 0)) rfl (by decide) rfl ⟨rfl, by decide, by decide⟩ (fun w h Y => PySem.W.kIn_of Y) ?F (fun K H a ns hl _ hS => ⟨a, ns, rfl, hS, hl, fun _ => rfl⟩)
  case F =>
    intro w mg fa h KX G hmg
    refine' Mi.all_mk KX G hmg ?a1 ?l1 ?c1 ?k1 ?a2 ?l2 ?c2 ?k2 ?a3 ?l3 ?c3 ?k3 ?a4 ?l4 ?c4 ?k4 ?a5 ?l5 ?c5 ?k5 ?a6 ?l6 ?c6 ?k6 ?a7 ?l7 ?c7 ?k7 ?a8 ?l8 ?c8 ?k8 ?a9 ?l9 ?c9 ?k9 ?a10 ?l10 ?c10 ?k10 ?a11 ?l11 ?c11 ?k11 ?a12 ?l12 ?c12 ?k12 ?a13 ?l13 ?c13 ?k13 ?a14 ?l14 ?c14 ?k14 ?a15 ?l15 ?c15 ?k15 ?a16 ?l16 ?c16 ?k16 ?a17 ?l17 ?c17 ?k17 ?a18 ?l18 ?c18 ?k18 ?a19 ?l19 ?c19 ?k19 ?a20 ?l20 ?c20 ?k20 ?a21 ?l21 ?c21 ?k21 ?a22 ?l22 ?c22 ?k22 ?a23 ?l23 ?c23 ?k23 ?a24 ?l24 ?c24 ?k24 ?a25 ?l25 ?c25 ?k25 ?xNoBase ?xxNoBase ?xkNoBase ?xbNoBase ?xtNoBase ?zlist ?zenumerate ?zint ?zrange ?zsum ?zlen ?zmin ?zmax ?zisinstance ?zbool ?zzip ?zsorted
    (case a1 => k_is); (case l1 => k_is); (case c1 => k_is); (case k1 => k_is); (case a2 => k_is); (case l2 => k_is); (case c2 => k_is); (case k2 => k_is); (case a3 => k_is); (case l3 => k_is); (case c3 => k_is); (case k3 => k_is); (case a4 => k_is); (case l4 => k_is); (case c4 => k_is); (case k4 => k_is); (case a5 => k_is); (case l5 => k_is); (case c5 => k_is); (case k5 => k_is); (case a6 => k_is); (case l6 => k_is); (case c6 => k_is); (case k6 => k_is); (case a7 => k_is); (case l7 => k_is); (case c7 => k_is); (case k7 => k_is); (case a8 => k_is); (case l8 => k_is); (case c8 => k_is); (case k8 => k_is); (case a9 => k_is); (case l9 => k_is); (case c9 => k_is); (case k9 => k_is); (case a10 => k_is); (case l10 => k_is); (case c10 => k_is); (case k10 => k_is); (case a11 => k_is); (case l11 => k_is); (case c11 => k_is); (case k11 => k_is); (case a12 => k_is); (case l12 => k_is); (case c12 => k_is); (case k12 => k_is); (case a13 => k_is); (case l13 => k_is); (case c13 => k_is); (case k13 => k_is); (case a14 => k_is); (case l14 => k_is); (case c14 => k_is); (case k14 => k_is); (case a15 => k_is); (case l15 => k_is); (case c15 => k_is); (case k15 => k_is); (case a16 => k_is); (case l16 => k_is); (case c16 => k_is); (case k16 => k_is); (case a17 => k_is); (case l17 => k_is); (case c17 => k_is); (case k17 => k_is); (case a18 => k_is); (case l18 => k_is); (case c18 => k_is); (case k18 => k_is); (case a19 => k_is); (case l19 => k_is); (case c19 => k_is); (case k19 => k_is); (case a20 => k_is); (case l20 => k_is); (case c20 => k_is); (case k20 => k_is); (case a21 => k_is); (case l21 => k_is); (case c21 => k_is); (case k21 => k_is); (case a22 => k_is); (case l22 => k_is); (case c22 => k_is); (case k22 => k_is); (case a23 => k_is); (case l23 => k_is); (case c23 => k_is); (case k23 => k_is); (case a24 => k_is); (case l24 => k_is); (case c24 => k_is); (case k24 => k_is); (case a25 => k_is); (case l25 => k_is); (case c25 => k_is); (case k25 => k_is); (case xNoBase => k_is); (case xxNoBase => k_exc); (case xkNoBase => k_is); (case xbNoBase => k_is); (case xtNoBase => k_is); (case zlist => k_is); (case zenumerate => k_is); (case zint => k_is); (case zrange => k_is); (case zsum => k_is); (case zlen => k_is); (case zmin => k_is); (case zmax => k_is); (case zisinstance => k_is); (case zbool => k_is); (case zzip => k_is); (case zsorted => k_is)
