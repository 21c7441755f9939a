import PyProof.Rows.All
import Wide.All
import OpenK.AllK
import Wide.FinOn
import HandS.ForMost
import HandS.Wide
import HandS.Defaults
import HandS.EndBits
import HandS.HeadHook2
import HandS.Head2
import HandS.Conv
import HandS.Walk
import HandS.IsInst
import PyProof.InstNe
import KE.KCallOwn
import HandS.Deep
import KE.KFromBytes
import KE.KExcIs
import HandS.ExcInit
import HandS.ExcSuper
import KE.KSuperObj
import KE.KSuper
import HandS.Nested
import HandS.HeadWalk
import HandS.ExcField
import HandS.Exc
import HandS.ExcOwn
import HandS.WordsExc
import HandS.TryMany
import HandS.Style
import HandS.RaiseMore
import PySem.Challenge.RW_owedrebuilds_k03_schemas_refused
set_option Elab.async false
set_option linter.all false
set_option maxRecDepth 100000
set_option maxHeartbeats 4000000

/-! Ow.L1: defs by name, powers of great ints, repr, the end of a law whose own body calls repr, a Hook with one more Bool -/
namespace Ow
open PySem PySem.Spec PyProof.Rows L2
/-! ### defs by name -/
abbrev FnP (K : PySem.W.Frag) (x : Str) (st : Stmt) (f : Addr) (fd : FuncData) : Prop := FunD K x x (defArgs st) (defBody st) (defScope st) [] [] f fd
/-- the module's name x stands for the def st -/
def TopD (K : PySem.W.Frag) (mg : Str → Option Value) (x : Str) (st : Stmt) : Prop := ∃ f fd, FnP K x st f fd ∧ mg x = some (.ref f)
/-- the module's name x stands for a def that keeps the promise sp -/
def FnAt (P : Program) (w : World) (K : PySem.W.Frag) (mg : Str → Option Value) (base : Heap) (x : Str) (ps : List Str) (k : Nat) (sp : Sp) : Prop :=
  ∃ f fd, mg x = some (.ref f) ∧ PySem.W.keepIn K (.ref f) = true ∧ Binds K fd ps [] ∧ FnOk P w K mg base CX0 k f fd ps sp
section
variable {P : Program} {w : World} {K : PySem.W.Frag} {mg : Str → Option Value} {base : Heap}
theorem fn_at {x : Str} {st : Stmt} {N ps : List Str} {k : Nat} {sp : Sp} (T : TopD K mg x st) (S : FnScope N ps (defScope st))
    (hb : ∀ (kV doc pm : Value) (an : Option Addr) (cdv ct : Value) (us : List Value), us.length = ps.length → bindArgs (PySem.W.fnOf x x (defArgs st) (defBody st) (defScope st) .none kV doc pm an cdv ct) ⟨us, []⟩ = pure (ps.zip us))
    (len : ∀ vs H Q E, sp vs H Q E → vs.length = ps.length)
    (hbody : ∀ (f : Addr) (cdv : Value) (A : Around) (outer : List Env) (s : Shared) (H : Hp) (vs : List V) (Q : VK) (E : XK), Room k (A.deeper (envOfC x (defScope st) s.heap.objs.size f cdv)) → sp vs H Q E →
      ∃ t, PSs (cxOf CX0 P w K mg base N x (defScope st) f cdv A outer s H E).nox (defBody st) t ∧ t { nx := fun _ H' => Q .non H', rt := Q } (start N vs) H) : FnAt P w K mg base x ps (k + 1) sp := by
  obtain ⟨f, fd, F, hm⟩ := T
  refine ⟨f, fd, hm, F.kp, F.bindsN hb, F.ok S len fun cdv A outer s H vs Q E hr h => ?_⟩
  obtain ⟨t, h1, h2⟩ := hbody f cdv A outer s H vs Q E hr h
  exact ⟨t, h1.nox, h2⟩
theorem FnAt.mono {x : Str} {ps : List Str} {j k : Nat} {sp : Sp} (F : FnAt P w K mg base x ps j sp) (h : j ≤ k) : FnAt P w K mg base x ps k sp := by
  obtain ⟨f, fd, h1, h2, h3, h4⟩ := F
  exact ⟨f, fd, h1, h2, h3, h4.mono h⟩
end
section
variable {X : Cx} {x : Str} {p pos : Pos} {e : Expr} {es : List Expr} {t : TA} {ps : List Str} {k : Nat} {sp : Sp}
theorem pe_fn (F : FnAt X.prog X.w X.K X.mg X.base x ps k sp) (hr : Room k X.A) (hg : Gl X x) (ha : PA X (e :: es) t) (hdb : (x == ("__debug__" : Str)) = false := by decide) (he : starEach (e :: es) X.env = (false, eval e X.env) :: starEach es X.env := by rfl)
    (hpl : (backTo pos (starEach es X.env)).any (·.1) = false := by rfl) : PE X (.Call (.Name x p) (e :: es) [] pos) (tCall sp [] E0 t) := by
  obtain ⟨f, fd, h1, h2, h3, h4⟩ := F
  exact pe_call h4 hr hg h1 h2 h3 .nil pass0 ha hdb he hpl
end
/-! ### powers -/
def CPowW (i j : Int) : Prop := 0 ≤ j ∧ (Builtin.Int.intBits i : Int) * j ≤ 2 ^ 27
theorem op_powW {X : Cx} : OpR X (binaryOp .Pow) (rI CPowW fun i j => .int (i ^ j.toNat)) := opI fun _ _ _ _ _ _ _ hc q => PyProof.Rows.pow_int hc.1 hc.2 q
theorem intBits_lt {i : Int} {n : Nat} (h : i.natAbs < 2 ^ n) (h0 : 0 < n) : Builtin.Int.intBits i ≤ n := by
  have e := PySem.Flt.log2_lt_of h0 h
  unfold Builtin.Int.intBits
  split <;> omega
theorem powW {i j : Int} {n : Nat} (h : i.natAbs < 2 ^ n) (h0 : 0 < n) (hj : 0 ≤ j) (hn : (n : Int) * j ≤ 2 ^ 27) : CPowW i j := by
  refine ⟨hj, Int.le_trans (Int.mul_le_mul_of_nonneg_right ?_ hj) hn⟩
  exact Int.ofNat_le.mpr (intBits_lt h h0)
/-! ### repr -/
def rRep (K : PySem.W.Frag) : List V → Hp → VK → Prop := fun xs H Q => ∃ (a : Addr) (d : PyData), xs = [.ref a] ∧ Dp K H (.ref a) d ∧ d.showable = true ∧ d.hasDict = false ∧ d.depth ≤ 64 ∧ d.shown.length ≤ sizeLine ∧ Q (.str d.shown) H
theorem call_rep {X : Cx} (hg : X.A.guards = some []) (hu : X.A.units + 65 < cLine) : CallR X (.builtin "repr") (rRep X.K) := by
  intro pins s σ H xs us Q I r h
  obtain ⟨a, d, rfl, hd, h1, h2, h3, h4, q⟩ := h
  cases r with
  | cons rx rr =>
    cases rr
    cases rx
    obtain ⟨as, r1⟩ := Dp.reads I d (.ref a) (.ref a) hd rfl
    exact repr_of_reads' r1 h1 (PyData.noDict_hsm h2) hg (by omega) (fun _ _ e => e) (fun h' u tk hk => ⟨.str d.shown, H, I.kept (t' := tk) hk, ⟨u, rfl⟩, q⟩) h4
/-! ### a def run where nothing is being shown -/
section
variable {P : Program} {w : World} {K : PySem.W.Frag} {mg : Str → Option Value} {base : Heap}
def FnG (P : Program) (w : World) (K : PySem.W.Frag) (mg : Str → Option Value) (base : Heap) (k : Nat) (f : Addr) (fd : FuncData) (ps : List Str) (sp : Sp) : Prop :=
  ∀ (A : Around) (outer : List Env) (s : Shared) (H : Hp) (args : Args) (us : List Value) (vs : List V) (Q : VK), A.guards = some [] → Room k A → Env0 P w K mg base A outer s H → BindsTo s fd args (ps.zip us) → Vals vs us → sp vs H Q E0 →
    codeAny (model P w) A (.call (.ref f) args) (CR CX0 outer P w H s Q E0) s
theorem fnG_of {x : Str} {st : Stmt} {f : Addr} {fd : FuncData} {N ps : List Str} {k : Nat} {sp : Sp} (F : FnP K x st f fd) (S : FnScope N ps (defScope st)) (len : ∀ vs H Q E, sp vs H Q E → vs.length = ps.length)
    (hbody : ∀ (cdv : Value) (A : Around) (outer : List Env) (s : Shared) (H : Hp) (vs : List V) (Q : VK), (A.deeper (envOfC x (defScope st) s.heap.objs.size f cdv)).guards = some [] → Room k (A.deeper (envOfC x (defScope st) s.heap.objs.size f cdv)) → sp vs H Q E0 →
      ∃ t, PSs (cxOf CX0 P w K mg base N x (defScope st) f cdv A outer s H E0).nox (defBody st) t ∧ t { nx := fun _ H' => Q .non H', rt := Q } (start N vs) H) : FnG P w K mg base (k + 1) f fd ps sp := by
  intro A outer s H args us vs Q hg hr e0 hb r hsp
  let sp' : Sp := fun vs' H' Q' E' => vs' = vs ∧ H' = H ∧ sp vs H Q' E0
  obtain ⟨oc, od, dV, kV, doc, pm, an, cdv, ct, osl, rfl, lk, hcd, _, _⟩ := F.ex
  have KX : K.In s.heap := e0.mod.kin.keeps fun b o e => (e0.bs b o e).1
  have lim : s.heap.NoLimit := e0.mod.nolimit.keeps fun b o e => (e0.bs b o e).1
  have hl := len _ _ _ _ hsp
  have hkind : ∀ y ∈ ps.zip us, (defScope st).names.lookup y.1 = some .local ∨ ((defScope st).names.lookup y.1 = some .cell ∧ ((cellsFrom (s.heap.objs.size + 1) (defScope st).names []).lookup y.1).isSome = true) := fun ⟨n, v⟩ hy => by
    rcases S.par n (List.of_mem_zip hy).1 with q | q
    · exact .inl q
    · exact .inr ⟨q, PySem.W.cellsFrom_some _ _ _ (.inl q)⟩
  refine codeAny_call_function hr.depth (KX _ _ lk) rfl S.co S.gen rfl (PySem.W.codeRec_of KX hcd) (hb _ _ _ _ ?_)
  refine wpAny_newFunctionEnv_cells S.kind hkind fun env he s1 z => ?_
  subst he
  refine ⟨lim.keeps z.toInCall.keep, codeAny_func ?_⟩
  obtain ⟨t, ht, hq⟩ := hbody cdv A outer s H vs Q hg (hr.deeper _) hsp
  have I : Inv (cxOf CX0 P w K mg base N x (defScope st) f cdv A outer s H E0) [] (start N vs) H s1 := inv_start S hr.hd e0 hl r z
  refine wpAny_mono (ht.nox.run [] s1 (start N vs) H _ I hq) (fun fl s' hs => ?_) fun e s' hs => hs
  cases fl with
  | ret u =>
    obtain ⟨v, σ', H', J, rv, q⟩ := hs
    exact ⟨v, H', J.os, J.bare, J.base, J.hok, rv, q⟩
  | next =>
    obtain ⟨σ', H', J, q⟩ := hs
    exact ⟨.non, H', J.os, J.bare, J.base, J.hok, rfl, q⟩
  | brk =>
    obtain ⟨_, _, _, q⟩ := hs
    exact False.elim q
  | cont =>
    obtain ⟨_, _, _, q⟩ := hs
    exact False.elim q
end
end Ow
/-! ### readings, one step -/
namespace Ow
open PySem PySem.Spec L2
section
variable {t ta tb : TE} {g : TG} {u : TS} {D : Ends} {σ : L2.St} {H : Hp} {Q : VK} {r : R2} {i : Nat} {v : V}
theorem as_ (h : t σ H fun v H1 => g v σ H1 (u D)) : tSeq (tAsg t g) u D σ H := h
theorem as1_ (h : t σ H fun v H1 => g v σ H1 D.nx) : tAsg t g D σ H := h
theorem ret_ (h : t σ H D.rt) : tRet t D σ H := h
theorem op_ (h : ta σ H fun x H1 => tb σ H1 fun y H2 => r x y H2 Q) : tOp r ta tb σ H Q := h
theorem var_ (e : σ[i]? = some (some v)) (h : Q v H) : tVar i σ H Q := ⟨v, e, h⟩
end
end Ow
namespace Ow
open PySem PySem.Spec L2
theorem lc_over {K : PySem.W.Frag} {L : Addr} {g : TG} {tt : TT} {te : TE} {vs : List Nat} {σ : L2.St} {H : Hp} {Q : VK} {i : Nat} (e : σ[i]? = some (some (.ref L))) (hx : ∃ xs, SqL K H L xs) (h : tLc (fun _ H1 R => R (Itl K L) H1) g tt te vs σ H Q) : tLc (iList K (tVar i)) g tt te vs σ H Q := ⟨_, e, L, rfl, hx, h⟩
theorem pg_tupK {X : Cx} {K : PySem.W.Frag} {es : List Expr} {k : Nat} {t : TGs} {n : Nat} {pos : Pos} (hc : X.calm = true) (h : PGs X es t) (hK : X.K = K := by rfl)
    (hn : (assignEach es X.env).length = n := by rfl) (hst : (assignEach es X.env).findIdx? (·.1) = none := by rfl) : PG X (.Tuple es k pos) (gTup K n t) := by
  subst hK
  exact pg_tup hc h hn hst
end Ow
namespace Ow
open PySem PySem.Spec L2
theorem yes_ {σ : L2.St} {H : Hp} {A B : Hp → Prop} (h : A H) : tYes σ H (fun b H3 => if b = true then A H3 else B H3) := by
  show if true = true then A H else B H
  rw [if_pos rfl]
  exact h
end Ow

/-! Ow.L2: the end of a law; the Hook -/
namespace Ow
open PySem PySem.Spec PyProof.Rows L2
theorem law_end {P : Program} {w : World} {K : PySem.W.Frag} {mg mb : Str → Option Value} {k : Nat} {fa a : Addr} {fd : FuncData} {x : Str} {sp : Sp} {s1 : Shared} {vs : List Value} {ns : List Int}
    (KX : K.In s1.heap) (hns : s1.heap.Ns mainGlobals mg) (hb : s1.heap.Ns builtinsNs mb) (hbb : ∀ x : Str, x ≠ "__name__" → mb x = bootBuiltins x) (hlim : s1.heap.NoLimit) (hg : s1.gens = #[])
    (ha : s1.heap.get? a = some { cls := .type "list", data := .seq vs.toArray }) (hi : IntsAre vs ns) (hl : ns.length ≤ sizeLine) (hr : Room k callerA)
    (F : ∀ base : Heap, K.In base → base.Ns mainGlobals mg → FnG P w K mg base k fa fd [x] sp) (hbind : ∀ (s : Shared) (u : Value), BindsTo s fd ⟨[u], []⟩ [(x, u)])
    (hsp : ∀ H : Hp, Only H → SqL K H a (ns.map V.int) → sp [.ref a] H (fun v _ => v = .bl true) E0) :
    codeAny (model P w) callerA (.call (.ref fa) ⟨[.ref a], []⟩) (fun r s' => r = .ok (.ret (.bool true)) ∧ OldK s1.heap s'.heap ∧ s'.os = s1.os ∧ AllBare s'.gens) s1 := by
  have rv := vals_ints hi
  have lenV := hi.length
  have core : ∀ H : Hp, Only H → SqL K H a (ns.map V.int) → HOk P w H s1.heap → (∀ b, H b ≠ none → b = a) → (H a ≠ none → K.lookup a = none) →
      codeAny (model P w) callerA (.call (.ref fa) ⟨[.ref a], []⟩) (fun r s' => r = .ok (.ret (.bool true)) ∧ OldK s1.heap s'.heap ∧ s'.os = s1.os ∧ AllBare s'.gens) s1 := by
    intro H hO hS hok hA hK
    have to_base : ∀ {b : Addr} {o : Obj}, s1.heap.get? b = some o → H b = none → (hidT s1.heap H).get? b = some o := fun e n => hidT_get e n
    have only_a : ∀ {b : Addr} {u : HO}, H b = some u → b = a := fun {b u} q => hA b (by rw [q]; simp)
    have no_dict : ∀ {b : Addr} {o : Obj} {es : Array DictEntry} {ep : Nat}, s1.heap.get? b = some o → o.data = .dict es ep → H b = none := fun {b o es ep} e d => by
      cases q : H b with
      | none => rfl
      | some u =>
        rw [only_a q, ha] at e
        cases e
        cases (show Data.seq vs.toArray _ = Data.dict es ep from d)
    have ns_base : ∀ {b : Addr} {m : Str → Option Value}, s1.heap.Ns b m → (hidT s1.heap H).Ns b m := fun {b m} ⟨o, es, ep, e, d, r⟩ => ⟨o, es, ep, to_base e (no_dict e d), d, r⟩
    have k_base : K.In (hidT s1.heap H) := fun b o e => to_base (KX b o e) (by
      cases q : H b with
      | none => rfl
      | some u =>
        have eb := only_a q
        subst eb
        rw [hK (by rw [q]; simp)] at e
        cases e)
    have hM : Mod K mg (hidT s1.heap H) := ⟨k_base, ns_base hns, ⟨mb, ns_base hb, hbb⟩, let ⟨mc, h1, h2⟩ := hlim; ⟨mc, ns_base h1, h2⟩⟩
    have e0 : Env0 P w K mg (hidT s1.heap H) callerA [] s1 H := ⟨rfl, hM, fun b o e => of_hidT e, Nat.le_of_eq (hidT_size _ _), trivial, fun b hb => absurd (show b ∈ ([] : List Addr) from hb) (by simp), hok, .of_eq hg⟩
    refine codeAny_mono (F _ k_base (ns_base hns) callerA [] s1 H ⟨[.ref a], []⟩ [.ref a] [.ref a] _ rfl hr e0 (hbind s1 (.ref a)) (.cons rfl .nil) (hsp H hO hS)) fun r s' h => ?_
    cases r with
    | error e => exact False.elim h
    | ok fl =>
      cases fl with
      | next => exact False.elim h
      | brk => exact False.elim h
      | cont => exact False.elim h
      | ret u =>
        obtain ⟨v, H', os, bare, un, hok', r', q⟩ := h
        have q' : v = .bl true := q
        subst q'
        obtain rfl : u = Value.bool true := r'
        refine ⟨rfl, OldK.of_keep fun b o e => ?_, os, bare⟩
        cases q : H b with
        | none => exact un.keep b o e q (fun z => absurd (show b ∈ ([] : List Addr) from z) (by simp)) (by simp)
        | some u =>
          rcases hO b with z | ⟨ob, xs, z⟩
          · rw [q] at z
            cases z
          · obtain ⟨e1, _⟩ := hok b _ z
            obtain ⟨e2, _⟩ := hok' b _ (un.frzs b ob _ z)
            rw [e] at e1
            cases e1
            exact e2
  cases hk : K.lookup a with
  | some o =>
    have e := KX a o hk
    rw [ha] at e
    cases e
    exact core (fun _ => none) (fun _ => .inl rfl) (.inr ⟨_, vs.toArray, _, hk, rfl, rfl, rfl, by rw [List.size_toArray, lenV]; exact hl, by simpa using rv⟩) (fun b u z => nomatch (show (none : Option HO) = some u from z)) (fun b z => absurd rfl z) fun z => absurd rfl z
  | none =>
    have h1 : ∀ b, b = a → (fun b => if b = a then some (HO.frz { cls := .type "list", data := .seq vs.toArray } (.lst (ns.map V.int))) else none) b = some (HO.frz { cls := .type "list", data := .seq vs.toArray } (.lst (ns.map V.int))) := fun b hb => if_pos hb
    have h2 : ∀ b, ¬ b = a → (fun b => if b = a then some (HO.frz { cls := .type "list", data := .seq vs.toArray } (.lst (ns.map V.int))) else none) b = none := fun b hb => if_neg hb
    refine core (fun b => if b = a then some (HO.frz { cls := .type "list", data := .seq vs.toArray } (.lst (ns.map V.int))) else none) (fun b => ?_) (.inl (.inr ⟨_, h1 a rfl⟩)) (fun b u z => ?_) (fun b z => ?_) fun _ => hk
    · by_cases hb : b = a
      · exact .inr ⟨_, _, h1 b hb⟩
      · exact .inl (h2 b hb)
    · by_cases hb : b = a
      · have z' := (h1 b hb).symm.trans z
        cases z'
        subst hb
        exact ⟨ha, by rw [List.length_map]; exact hl, vs, _, rv, ha⟩
      · have z' := (h2 b hb).symm.trans z
        cases z'
    · by_cases hb : b = a
      · exact hb
      · exact absurd (h2 b hb) z
theorem walk_end {l : PySem.W.OpenLaw} {n k : Nat} {q : Program} {loose : List Str} {XP : (Str → Option Value) → Heap → Prop} {YP : World → Heap → Prop} {d : DefRec} {x : Str}
    (hn : l.most = some n) (hn2 : n ≤ sizeLine) (hdf : d.params.defaults = []) (hr : Room k callerA)
    (F : ∀ (w : World) (mg : Str → Option Value) (fa : Addr) (h : Heap), YP w h → h.Ns mainGlobals mg → mg d.name = some (.ref fa) →
      ∃ (K : PySem.W.Frag) (fd : FuncData) (sp : Sp), K.In h ∧ (∀ (s : Shared) (u : Value), BindsTo s fd ⟨[u], []⟩ [(x, u)]) ∧
        (∀ (H : Hp) (a : Addr) (ns : List Int), ns.length ≤ n → (∀ z ∈ ns, Builtin.Int.intBits z ≤ 1048576) → Only H → SqL K H a (ns.map V.int) → sp [.ref a] H (fun v _ => v = .bl true) E0) ∧
        ∀ base : Heap, K.In base → base.Ns mainGlobals mg → FnG l.prog w K mg base k fa fd [x] sp) :
    PySem.W.WalkO q loose XP YP l.row.toRowW d [] (fun f vs => PySem.call f vs) := by
  refine Att.attach_callB hn hdf fun w s₀ s₁ mg mb fa o pm cd doc a vs ns G Y ho hd hcd hmg hobj hints hlen hbits hg => ?_
  obtain ⟨K, fd, sp, KX, hb, hsp, hF⟩ := F w mg fa _ Y G.T.g hmg
  exact law_end KX G.T.g G.T.b G.T.builtins G.T.nolimit hg hobj hints (Nat.le_trans hlen hn2) hr hF hb fun H hO hS => hsp H a ns hlen hbits hO hS
/-! ### the Hook -/
/-- a def with a closure: name, qualified name, parameters, body, scope -/
abbrev FnC : Type := Option (Str × Str × Arguments × FuncBody × Scope)
def fnC (K : PySem.W.Frag) (a : Addr) : FnC := match K.lookup a with
  | some ⟨_, _, .func fd, _⟩ => some (fd.name, fd.qualname, fd.params, fd.body, fd.scope)
  | _ => none
/-- a method of a class: the class's name, the method's name, its text -/
structure MthD where
  cls : Str
  name : Str
  qual : Str
  st : Stmt
def MthD.val (d : MthD) : FnC := some (d.name, d.qual, defArgs d.st, .stmts (defBody d.st), defScope d.st)
abbrev AlO : Type := He.AlD × List FnC × Bool
def asO (g : Addr → Option Obj) (n : Nat) : List Addr := He.asD g n ++ [cStatics]
def obsO (n : Nat) (fa : List He.Fa) (fn : List He.DefD) (mt : List MthD) (ex : PySem.W.Frag → Bool) (g : Addr → Option Obj) : AlO :=
  (He.obsD fa fn (He.frG g (asO g n)), mt.map fun d => fnC (He.frG g (asO g n)) (He.ma (He.frG g (asO g n)) (He.ga (He.frG g (asO g n)) d.cls) d.name), ex (He.frG g (asO g n)))
def valO (fn : List He.DefD) (mt : List MthD) : AlO := (He.valD fn, mt.map MthD.val, true)
structure SaysO (fa : List He.Fa) (fn : List He.DefD) (mt : List MthD) (ex : PySem.W.Frag → Bool) (K : PySem.W.Frag) : Prop where
  d : He.SaysD fa fn K
  m : mt.map (fun d => fnC K (He.ma K (He.ga K d.cls) d.name)) = mt.map MthD.val
  x : ex K = true
def hookO (n : Nat) (fa : List He.Fa) (fn : List He.DefD) (mt : List MthD) (ex : PySem.W.Frag → Bool) : PySem.W.Hook where
  α := AlO
  obs := fun s => obsO n fa fn mt ex s.heap.get?
  val := fun _ => valO fn mt
  says := fun _ h => ∃ K : PySem.W.Frag, K.In h ∧ SaysO fa fn mt ex K
  of := fun _ _ e => ⟨_, He.frG_in, ⟨congrArg (fun z : AlO => z.1) e, congrArg (fun z : AlO => z.2.1) e, congrArg (fun z : AlO => z.2.2) e⟩⟩
  keeps := fun _ _ _ ⟨K, hK, c⟩ k => ⟨K, PySem.W.Frag.In.keeps hK k, c⟩
theorem obsO_eq {n : Nat} {fa : List He.Fa} {fn : List He.DefD} {mt : List MthD} {ex : PySem.W.Frag → Bool} {g : Addr → Option Obj} {s : Shared} (h : ∀ a, g a = s.heap.get? a) : obsO n fa fn mt ex g = (hookO n fa fn mt ex).obs s := by
  have e : g = s.heap.get? := funext h
  rw [e] <;> rfl
theorem SaysO.mth {fa : List He.Fa} {fn : List He.DefD} {mt : List MthD} {ex : PySem.W.Frag → Bool} {K : PySem.W.Frag} (c : SaysO fa fn mt ex K) {d : MthD} (h : d ∈ mt) : fnC K (He.ma K (He.ga K d.cls) d.name) = d.val := by
  have e := c.m
  rw [List.map_inj_left] at e
  exact e d h
end Ow

/-! Ow.D1: draws: what pool, draw and of promise -/
namespace Ow
open PySem PySem.Spec L2
/-- all but p is as it was -/
def Keep (p : Addr) (H H' : Hp) : Prop := ∀ b o, b ≠ p → H b = some o → H' b = some o
theorem Keep.refl (p : Addr) (H : Hp) : Keep p H H := fun _ _ _ h => h
theorem Keep.trans {p : Addr} {H H1 H2 : Hp} (a : Keep p H H1) (b : Keep p H1 H2) : Keep p H H2 := fun c o n h => b c o n (a c o n h)
theorem Keep.of {p : Addr} {H H' : Hp} (a : Same H H') : Keep p H H' := fun b o _ h => a b o h
theorem keep_upd {p : Addr} {H : Hp} {o : HO} : Keep p H (upd H p o) := fun b u n h => by rw [upd_ne n]; exact h
/-- a pool: three ints, at most n numbers mixed so far -/
def PoolAt (H : Hp) (p : Addr) (n : Nat) : Prop := ∃ a b c : Int, H p = some (.lst [.int a, .int b, .int c]) ∧ 0 ≤ a ∧ 0 ≤ b ∧ b < 2 ^ 100 ∧ 0 ≤ c ∧ c ≤ (n : Int)
theorem PoolAt.mono {H : Hp} {p : Addr} {n m : Nat} (h : PoolAt H p n) (l : n ≤ m) : PoolAt H p m := by
  obtain ⟨a, b, c, h1, h2, h3, h4, h5, h6⟩ := h
  exact ⟨a, b, c, h1, h2, h3, h4, h5, Int.le_trans h6 (Int.ofNat_le.mpr l)⟩
theorem PoolAt.same {H H' : Hp} {p : Addr} {n : Nat} (h : PoolAt H p n) (s : Same H H') : PoolAt H' p n := by
  obtain ⟨a, b, c, h1, h2⟩ := h
  exact ⟨a, b, c, s _ _ h1, h2⟩
theorem PoolAt.ne {H : Hp} {p q : Addr} {n : Nat} (h : PoolAt H p n) (e : H q = none) : q ≠ p := by
  obtain ⟨a, b, c, h1, _⟩ := h
  exact (ne_of_none h1 e).symm
/-- what is new behind, was new ahead -/
theorem Keep.free {p : Addr} {H H' : Hp} {n m : Nat} (k : Keep p H H') (h : PoolAt H p n) (h' : PoolAt H' p m) {q : Addr} (e : H' q = none) : H q = none := by
  cases z : H q with
  | none => rfl
  | some o =>
    rw [k q o (h'.ne e) z] at e
    cases e
def spPool (K : PySem.W.Frag) : Sp := fun vs H Q _ => ∃ (s : Addr) (ns : List Int) (i : Nat), vs = [.ref s, .int (i : Int)] ∧ SqL K H s (ns.map V.int) ∧ i ≤ 1000 ∧ ∀ H' p, H p = none → Same H H' → PoolAt H' p 0 → Q (.ref p) H'
def spDraw : Sp := fun vs H Q _ => ∃ (p : Addr) (n : Nat) (m : Int), vs = [.ref p, .int m] ∧ PoolAt H p n ∧ n < 2 ^ 60 ∧ 0 < m ∧ m.natAbs < 2 ^ 200 ∧ ∀ H' (d : Int), Keep p H H' → PoolAt H' p (n + 1) → 0 ≤ d → d < m → Q (.int d) H'
def spOf (K : PySem.W.Frag) : Sp := fun vs H Q _ => ∃ (p l : Addr) (n : Nat) (xs : List V), vs = [.ref p, .ref l] ∧ PoolAt H p n ∧ n < 2 ^ 60 ∧ SqL K H l xs ∧ l ≠ p ∧ 0 < xs.length ∧ xs.length ≤ 1000 ∧ ∀ H' v, Keep p H H' → PoolAt H' p (n + 1) → v ∈ xs → Q v H'
/-! ### the numbers -/
theorem div_nonneg_of {a m : Int} (h : 0 ≤ a) (h2 : 0 < m) : 0 ≤ a / m := Int.ediv_nonneg h (Int.le_of_lt h2)
theorem mix1 {b c : Int} (h1 : 0 ≤ b) (h2 : b < 2 ^ 100) (h3 : 0 ≤ c) (h4 : c ≤ 2 ^ 61) : 0 ≤ b + 982451653 * c ∧ (b + 982451653 * c).natAbs < 2 ^ 101 := by
  have : (2 : Int) ^ 100 = 1267650600228229401496703205376 := by decide
  have : (2 : Int) ^ 61 = 2305843009213693952 := by decide
  have : (2 : Nat) ^ 101 = 2535301200456458802993406410752 := by decide
  omega
theorem mix2 {x c : Int} (h1 : 0 ≤ x) (h2 : x < 162259276829213363391578010288127) (h3 : 0 ≤ c) (h4 : c ≤ 2 ^ 61) : 0 ≤ x + 32452867 * c ∧ (x + 32452867 * c).natAbs < 2 ^ 108 := by
  have : (2 : Int) ^ 61 = 2305843009213693952 := by decide
  have : (2 : Nat) ^ 108 = 324518553658426726783156020576256 := by decide
  omega
theorem sqL_keep {K : PySem.W.Frag} {H H' : Hp} {p l : Addr} {xs : List V} (h : SqL K H l xs) (n : l ≠ p) (k : Keep p H H') : SqL K H' l xs := by
  rcases h with (h | ⟨o, h⟩) | h
  · exact .inl (.inl (k _ _ n h))
  · exact .inl (.inr ⟨o, k _ _ n h⟩)
  · exact .inr h
/-- the built-ins that the laws call are the built-ins -/
structure Blt (mg : Str → Option Value) : Prop where
  len : mg "len" = none
  abs : mg "abs" = none
  int : mg "int" = none
  range : mg "range" = none
  max : mg "max" = none
  min : mg "min" = none
  isinstance : mg "isinstance" = none
  tuple : mg "tuple" = none
  repr : mg "repr" = none
end Ow

/-! Ow.S1: tuple(d) of a dict; a thing locked for good -/
namespace Ow
open PySem PySem.Spec PyProof.Rows L2
section
variable {prog : Program} {w : World} {A : Around} {E : Value → Shared → Prop} {s : Shared} {T : String} {r d : Addr} {n : Nat} {P : Nat → Value → Prop} {OK : Heap → Prop}
theorem collect_src {Q : List Value → Shared → Prop} (K : PySem.W.KdlSrc prog w T r d n P OK) (hh : A.handled = none) (hok : OK s.heap) (hn : n ≤ sizeLine)
    (hQ : ∀ (h' : Heap) (tk : Nat) (acc : Array Value), (∀ b o, s.heap.get? b = some o → h'.get? b = some o) → ItemsOf P acc n → Q acc.toList { s with heap := h', toks := tk }) :
    wpAny (model prog w) A (collect (.ref r)) Q E s := by
  unfold collect
  refine wpAny_bind (wpAny_runValue (codeAny_builtin F.entry_proto_collect ?_))
  rw [Around.under_plainId F.plain_proto_collect _]
  show wpAny _ A.in1 (newList [] >>= fun l => again (.builtin "list.__iadd__" ⟨[l, .ref r], []⟩)) _ _ s
  refine wpAny_bind (wpAny_newObj_type ?_)
  refine wpAny_pure ⟨plainId_quiet F.plain_list_iadd _, codeAny_builtin F.entry_list_iadd ?_⟩
  rw [Around.under_plainId F.plain_list_iadd _]
  show wpAny _ A.in1 (Builtin.List.listExtendWith (.ref s.heap.objs.size) (.ref r) (.ref s.heap.objs.size)) _ _ _
  have hS : (s.heap.push { cls := .type "list", data := .seq ([] : List Value).toArray }).get? s.heap.objs.size = some { cls := .type "list", data := .seq #[] 0 } := Heap.get?_push_size _ rfl
  have hlt := K.there _ hok
  refine wpAny_mono (PySem.W.kdl_extend (A := A) (R := fun rr s' => rr = .ok (.ret (.ref s.heap.objs.size)) ∧ ∃ (h' : Heap) (tk : Nat) (acc : Array Value) (c' : Nat), s' = { s with heap := h', toks := tk } ∧
      (∀ b o, s.heap.get? b = some o → h'.get? b = some o) ∧ h'.get? s.heap.objs.size = some { cls := .type "list", dict := none, data := .seq acc c', slots := #[] } ∧ ItemsOf P acc n)
    (s := { s with heap := s.heap.push { cls := .type "list", data := .seq ([] : List Value).toArray } }) K hh (K.keep _ _ hok fun b _ o e => Heap.get?_push_of_some _ e) _ (Nat.ne_of_gt hlt.1) (Nat.ne_of_gt hlt.2) _ 0 hS
    (fun h' tk acc c' hk e hi => ⟨rfl, h', tk, acc, c', rfl, fun b o q => hk b o (Nat.ne_of_lt (Heap.lt_size q)) (Heap.get?_push_of_some _ q), e, hi⟩) hn) (fun fin s' h => ?_) (fun e s' h => ?_)
  · cases fin with
    | done f =>
      obtain ⟨e, h', tk, acc, c', rfl, hk, hS', hi⟩ := h
      cases e
      show wpAny _ A (load s.heap.objs.size >>= _) _ _ _
      exact wpAny_bind (wpAny_load hS' (wpAny_pure (hQ h' tk acc hk hi)))
    | again c' =>
      refine ⟨h.1, codeAny_mono h.2 fun rr s'' hr' => ?_⟩
      obtain ⟨rfl, h', tk, acc, c', rfl, hk, hS', hi⟩ := hr'
      show wpAny _ A (load s.heap.objs.size >>= _) _ _ _
      exact wpAny_bind (wpAny_load hS' (wpAny_pure (hQ h' tk acc hk hi)))
  · exact absurd h.1 (by simp)
theorem code_tuple_src {Q₁ : Value → Shared → Prop} (K : PySem.W.KdlSrc prog w T r d n P OK) (hT : T = "dict") (hh : A.handled = none) (hok : OK s.heap) (hn : n ≤ sizeLine)
    (h : ∀ (h' : Heap) (tk : Nat) (acc : Array Value), (∀ b o, s.heap.get? b = some o → h'.get? b = some o) → ItemsOf P acc n →
      Q₁ (.ref h'.objs.size) { s with heap := h'.push { cls := .type "tuple", data := .seq acc }, toks := tk }) :
    codeAny (model prog w) A (.call (.builtin "tuple.__new__") ⟨[.type "tuple", .ref r], []⟩) (wants Q₁ E) s := by
  subst hT
  refine codeAny_of_tree ?_
  show wpAny _ A.in1 (do checkBuiltinCall "tuple.__new__" ⟨[.type "tuple", .ref r], []⟩; again (.builtin "tuple.__new__" ⟨[.type "tuple", .ref r], []⟩)) _ _ s
  refine wpAny_bind (wpAny_of_eq (F.newCall_tuple_1 _) (wpAny_pure ⟨plainId_quiet F.plain_tuple_new _, codeAny_builtin F.entry_tuple_new ?_⟩))
  rw [Around.under_plainId F.plain_tuple_new _]
  have hsub := sub_tuple_self
  have hinit := init_tuple_lookup
  have hmh := madeHere_tuple
  have hTI : s.TypeIs (.ref r) "dict" := K.type s hok
  have hh1 : A.in1.handled = none := hh
  wp_walk using wpAny_typeOf hTI, collect_src (A := A.in1) K hh1 hok hn
  intro h' tk acc hk hacc
  show wpAny _ _ (Builtin.Tuple.tupleExact acc.toList.toArray >>= fun v => ret v) _ _ _
  unfold Builtin.Tuple.tupleExact
  refine wpAny_bind (wpAny_newObj_type ?_ (by show acc.toList.toArray.size ≤ sizeLine; simp only [Array.toArray_toList]; rw [hacc.1]; exact hn))
  refine wpAny_pure ?_
  have e : acc.toList.toArray = acc := by simp
  rw [e]
  exact h h' tk acc hk hacc
theorem call_tuple_src {Q : Value → Shared → Prop} (K : PySem.W.KdlSrc prog w T r d n P OK) (hT : T = "dict") (hh : A.handled = none) (hok : OK s.heap) (hn : n ≤ sizeLine)
    (hQ : ∀ (h' : Heap) (tk : Nat) (acc : Array Value), (∀ b o, s.heap.get? b = some o → h'.get? b = some o) → ItemsOf P acc n →
      Q (.ref h'.objs.size) { s with heap := h'.push { cls := .type "tuple", data := .seq acc }, toks := tk }) :
    wpAny (model prog w) A (call (.type "tuple") [.ref r]) Q E s := by
  refine callType_codes (Q₁ := fun obj s₁ => s₁.TypeIs obj "tuple" ∧ Q obj s₁) F.called_tuple (F.typeCall_tuple_1 _) F.entry_object_init
    (code_tuple_src (A := A.in1) K hT hh hok hn fun h' tk acc hk hacc => ⟨⟨_, Heap.get?_push_size _ rfl, rfl⟩, hQ h' tk acc hk hacc⟩) fun obj s₁ h₁ => ?_
  exact ⟨h₁.1, F.args_object_init_2 obj _, object_init_meets F.called_tuple.init.lookup F.called_tuple.made (by decide) prog w A.in1 _ s₁ ⟨h₁.1, rfl, h₁.2⟩⟩
end
/-- tuple(d): the keys, in order -/
def rTupD : List V → Hp → VK → Prop := fun xs H Q => ∃ p kvs, xs = [.ref p] ∧ Rd H p (.dK kvs) ∧ ∀ q, H q = none → Q (.ref q) (upd H q (.tup (kvs.map fun kv => kV kv.1)))
theorem call_tuple_dK {X : Cx} (hc : X.calm = true) : CallR X (.type "tuple") rTupD := by
  intro pins s σ H xs us Q I r h
  obtain ⟨p, kvs, e, hk, q⟩ := h
  subst e
  obtain ⟨u, eu, rx⟩ := vals1 r
  subst eu
  obtain rfl : u = Value.ref p := rx
  obtain ⟨z, lo, vs, rk, hd⟩ := dk_rd I.hok hk
  obtain ⟨ep, hat⟩ := hd.dictAt
  have hl : kvs.length = vs.length := Paired.length rk
  refine call_tuple_src (PySem.W.kdl_dict (knd := mixKind X.prog X.w) (kvs := vs) (ep := ep) lo) rfl (I.ok.hd hc) hat (by rw [← hl]; exact z) fun h' tk acc' hkeep hacc => ?_
  have I1 : Inv X pins σ H { s with heap := h', toks := tk } := I.kept (t' := tk) hkeep
  refine ⟨.ref h'.objs.size, upd H h'.objs.size (.tup (kvs.map fun kv => kV kv.1)), I1.laid (t' := tk) (fun b o e => Heap.get?_push_of_some _ e) (Nat.le_refl _) (show ObjOk X.prog X.w _ _ _ (.tup (kvs.map fun kv => kV kv.1)) from ⟨?_, acc'.toList, ?_, ?_⟩), rfl, q _ (I1.hok.fresh (Nat.le_refl _))⟩
  · rw [List.length_map]; exact z
  · have el : acc'.toList.length = acc'.size := by simp
    refine vals_of_at (by rw [List.length_map, el, hacc.1, hl]) fun j x w h1 h2 => ?_
    obtain ⟨k, y, hky, hi⟩ := hacc.2 j w (by rw [← Array.getElem?_toList]; exact h2)
    have e1 : (kvs.map (·.1))[j]? = some k := by
      rw [KV.keys rk, List.getElem?_map, hky] <;> rfl
    have e2 : (kvs.map fun kv => kV kv.1)[j]? = some (kV k) := by
      have e3 : (kvs.map fun kv => kV kv.1) = (kvs.map (·.1)).map kV := by rw [List.map_map] <;> rfl
      rw [e3, List.getElem?_map, e1] <;> rfl
    rw [e2] at h1
    cases h1
    exact keyIs_rel hi
  · rw [Array.toArray_toList]; exact IsTup.new _ _
/-- things locked one after another, for good -/
def FrzN : Nat → Hp → (Hp → Prop) → Prop
  | 0, H, q => q H
  | n + 1, H, q => ∃ d u, H d = some u ∧ Mut (some u) ∧ ∀ od, FrzN n (upd H d (.frz od u)) q
def tFrz (t : TE) : TE := fun σ H Q => t σ H fun v H1 => ∃ n, FrzN n H1 (Q v)
section
variable {X : Cx} {pins : List (Addr × Obj)} {σ : L2.St} {s : Shared}
theorem frzN_ok : ∀ {n : Nat} {H : Hp} {q : Hp → Prop}, Inv X pins σ H s → FrzN n H q → ∃ H', Inv X pins σ H' s ∧ q H'
  | 0, H, q, I, h => ⟨H, I, h⟩
  | n + 1, H, q, I, h => by
    obtain ⟨d, u, hd, mu, h⟩ := h
    obtain ⟨od, I1⟩ := I.lock hd mu
    exact frzN_ok I1 (h od)
theorem pe_frz {e : Expr} {t : TE} (h : PE X e t) : PE X e (tFrz t) := by
  refine ⟨fun pins s σ H Q I hw => ?_⟩
  refine thn (h.run pins s σ H _ I hw) fun v s1 ⟨x, H1, I2, r, L, q⟩ => ?_
  obtain ⟨H2, I3, q⟩ := frzN_ok I2 q
  exact ⟨x, H2, I3, r, q⟩
end
end Ow

/-! Ow.S2: schemas in plain Lean: tables, their lines, and the lines read -/
namespace Ow
open PySem PySem.Spec L2 TL
structure Col where
  name : Str
  kind : Str
  tgt : Option Str
  rule : Option Str
abbrev Tab : Type := Str × List Col
def LET : Str := "abcdefghijklmnopqrstuvwxyz"
def BAR : List Str := [("key" : Str), ("self" : Str), ("table" : Str)]
def RUL : List Str := [("refuse" : Str), ("clear" : Str), ("cascade" : Str)]
/-- a word -/
def isW (z : Str) : Bool := decide (1 ≤ z.length) && (decide (z.length ≤ 8) && z.cps.toList.all fun c => decide (c ∈ LET.cps.toList))
def wsOf (line : Str) : List Str := Txt.split line (" " : Str)
def wd (ws : List Str) (i : Nat) : Str := ws.getD i ("" : Str)
def nmOf (line : Str) : Option Str := if ((wsOf line).length == 2) && ((wd (wsOf line) 0 == ("table" : Str)) && isW (wd (wsOf line) 1)) then some (wd (wsOf line) 1) else none
/-- the tables that the lines name -/
def named (ls : List Str) : List Str := ls.filterMap nmOf
/-- a column, read from its words -/
def colOf (ws names : List Str) : Option Col :=
  if ws.length < 2 ∨ isW (wd ws 1) = false ∨ wd ws 1 ∈ BAR then none
  else if ws.length = 2 ∧ (wd ws 0 = ("value" : Str) ∨ wd ws 0 = ("flag" : Str)) then some ⟨wd ws 1, wd ws 0, none, none⟩
  else if ws.length = 4 ∧ wd ws 0 = ("link" : Str) ∧ wd ws 2 ∈ names ∧ wd ws 3 ∈ RUL then some ⟨wd ws 1, ("link" : Str), some (wd ws 2), some (wd ws 3)⟩
  else none
/-- one more column in the last table -/
def addCol : List Tab → Col → Option (List Tab)
  | [], _ => none
  | [(n, cs)], c => if c.name ∈ cs.map Col.name ∨ cs.length = 6 then none else some [(n, cs ++ [c])]
  | t :: t' :: r, c => (addCol (t' :: r) c).map (t :: ·)
def stepT (names : List Str) (ts : List Tab) (ws : List Str) : Option (List Tab) :=
  if wd ws 0 = ("table" : Str) then (if ws.length ≠ 2 ∨ isW (wd ws 1) = false ∨ wd ws 1 ∈ ts.map Prod.fst ∨ ts.length = 5 then none else some (ts ++ [(wd ws 1, [])]))
  else (colOf ws names).bind (addCol ts)
/-- the lines read: the tables, or the number of the first wrong line -/
def readT (names : List Str) : List Str → List Tab → Nat → Except Nat (List Tab)
  | [], ts, _ => .ok ts
  | l :: ls, ts, i => match stepT names ts (wsOf l) with
    | none => .error i
    | some ts' => readT names ls ts' (i + 1)
/-! ### lines -/
def oS (o : Option Str) : Str := o.getD ("" : Str)
def lnC (c : Col) : Str := c.kind ++ (" " : Str) ++ c.name ++ (if c.kind = ("link" : Str) then (" " : Str) ++ oS c.tgt ++ (" " : Str) ++ oS c.rule else ("" : Str))
def lnT (t : Tab) : List Str := (("table " : Str) ++ t.1) :: t.2.map lnC
def linesOf (ts : List Tab) : List Str := ts.flatMap lnT
structure ColOk (names : List Str) (c : Col) : Prop where
  w : isW c.name = true
  nb : c.name ∉ BAR
  k : (c.kind = ("link" : Str) ∧ ∃ t r, c.tgt = some t ∧ c.rule = some r ∧ t ∈ names ∧ r ∈ RUL) ∨ ((c.kind = ("value" : Str) ∨ c.kind = ("flag" : Str)) ∧ c.tgt = none ∧ c.rule = none)
structure TabOk (names : List Str) (t : Tab) : Prop where
  w : isW t.1 = true
  few : t.2.length ≤ 6
  nd : (t.2.map Col.name).Nodup
  cols : ∀ c ∈ t.2, ColOk names c
structure TabsOk (ts : List Tab) : Prop where
  few : ts.length ≤ 5
  pos : 0 < ts.length
  nd : (ts.map Prod.fst).Nodup
  tab : ∀ t ∈ ts, TabOk (ts.map Prod.fst) t
/-! ### words have no blank -/
theorem isW_len {z : Str} (h : isW z = true) : 1 ≤ z.length ∧ z.length ≤ 8 := by
  unfold isW at h
  simp only [Bool.and_eq_true, decide_eq_true_eq] at h
  exact ⟨h.1, h.2.1⟩
theorem isW_low {z : Str} (h : isW z = true) : ∀ c ∈ tl z, 97 ≤ c ∧ c ≤ 122 := by
  unfold isW at h
  simp only [Bool.and_eq_true, decide_eq_true_eq, List.all_eq_true] at h
  intro c hc
  have q : ∀ c ∈ LET.cps.toList, 97 ≤ c ∧ c ≤ 122 := by decide +kernel
  exact q c (h.2.2 c hc)
def Low (z : Str) : Prop := ∀ c ∈ tl z, 97 ≤ c ∧ c ≤ 122
theorem low_lit {z : Str} (h : (tl z).all (fun c => decide (97 ≤ c ∧ c ≤ 122)) = true) : Low z := fun c hc => by simpa using List.all_eq_true.mp h c hc
theorem low_rul {z : Str} (h : z ∈ RUL) : Low z := by
  have q : ∀ z ∈ RUL, (tl z).all (fun c => decide (97 ≤ c ∧ c ≤ 122)) = true := by decide +kernel
  exact low_lit (q z h)
theorem ws_join {parts : List Str} (hne : parts ≠ []) (hp : ∀ p ∈ parts, Low p) : wsOf (Txt.join (" " : Str) parts) = parts := by
  refine TL.split_join (s := 32) (S := []) (by decide +kernel) (by decide +kernel) hne fun p h => ?_
  intro z
  have := hp p h 32 z
  omega
theorem ws_table {n : Str} (h : isW n = true) : wsOf (("table " : Str) ++ n) = [("table" : Str), n] := by
  have e : (("table " : Str) ++ n) = Txt.join (" " : Str) [("table" : Str), n] := by
    rw [join_eq]
    refine ext_tl ?_
    rw [tl_join, tl_append]
    show _ = tl ("table" : Str) ++ (tl (" " : Str) ++ tl n)
    have e2 : tl ("table " : Str) = tl ("table" : Str) ++ tl (" " : Str) := by decide +kernel
    rw [e2, List.append_assoc]
  rw [e]
  refine ws_join (by simp) fun p hp => ?_
  simp only [List.mem_cons, List.not_mem_nil, or_false] at hp
  rcases hp with rfl | rfl
  · exact low_lit (by decide +kernel)
  · exact isW_low h
theorem ws_two {k n : Str} (hk : Low k) (hn : Low n) : wsOf (k ++ (" " : Str) ++ n ++ ("" : Str)) = [k, n] := by
  have e : k ++ (" " : Str) ++ n ++ ("" : Str) = Txt.join (" " : Str) [k, n] := by
    rw [join_eq]
    refine ext_tl ?_
    rw [tl_join, tl_append, tl_append, tl_append]
    show _ = tl k ++ (tl (" " : Str) ++ tl n)
    have e2 : tl ("" : Str) = [] := by decide +kernel
    rw [e2, List.append_nil, List.append_assoc]
  rw [e]
  refine ws_join (by simp) fun p hp => ?_
  simp only [List.mem_cons, List.not_mem_nil, or_false] at hp
  rcases hp with rfl | rfl
  · exact hk
  · exact hn
theorem ws_four {k n t r : Str} (hk : Low k) (hn : Low n) (ht : Low t) (hr : Low r) : wsOf (k ++ (" " : Str) ++ n ++ ((" " : Str) ++ t ++ (" " : Str) ++ r)) = [k, n, t, r] := by
  have e : k ++ (" " : Str) ++ n ++ ((" " : Str) ++ t ++ (" " : Str) ++ r) = Txt.join (" " : Str) [k, n, t, r] := by
    rw [join_eq]
    refine ext_tl ?_
    rw [tl_join]
    show _ = tl k ++ (tl (" " : Str) ++ (tl n ++ (tl (" " : Str) ++ (tl t ++ (tl (" " : Str) ++ tl r)))))
    simp only [tl_append, List.append_assoc]
  rw [e]
  refine ws_join (by simp) fun p hp => ?_
  simp only [List.mem_cons, List.not_mem_nil, or_false] at hp
  rcases hp with rfl | rfl | rfl | rfl
  · exact hk
  · exact hn
  · exact ht
  · exact hr
/-- a good column's line: its words, and what is read of them -/
theorem col_line {names : List Str} {c : Col} (hn : ∀ t ∈ names, isW t = true) (h : ColOk names c) : colOf (wsOf (lnC c)) names = some c ∧ wd (wsOf (lnC c)) 0 ≠ ("table" : Str) := by
  have hw := h.w
  have hb := h.nb
  obtain ⟨nm, kd, tg, ru⟩ := c
  rcases h.k with ⟨e1, t, r, e2, e3, h4, h5⟩ | ⟨e1, e2, e3⟩
  · simp only at e1 e2 e3 hw hb
    subst e1 e2 e3
    have e : wsOf (lnC ⟨nm, ("link" : Str), some t, some r⟩) = [("link" : Str), nm, t, r] := by
      unfold lnC
      simp only [if_true, oS, Option.getD_some]
      exact ws_four (low_lit (by decide +kernel)) (isW_low hw) (isW_low (hn t h4)) (low_rul h5)
    rw [e]
    unfold colOf
    refine ⟨?_, (show ("link" : Str) ≠ ("table" : Str) from by decide)⟩
    rw [if_neg, if_neg, if_pos]
    · rfl
    · exact ⟨rfl, rfl, h4, h5⟩
    · rintro ⟨z, _⟩
      exact absurd z (by simp)
    · rintro (z | z | z)
      · exact absurd z (by simp)
      · have z : isW nm = false := z
        rw [hw] at z
        cases z
      · exact hb z
  · simp only at e1 e2 e3 hw hb
    subst e2 e3
    have e : wsOf (lnC ⟨nm, kd, none, none⟩) = [kd, nm] := by
      unfold lnC
      have ne : ¬ kd = ("link" : Str) := by rcases e1 with rfl | rfl <;> decide
      simp only [if_neg ne]
      refine ws_two ?_ (isW_low hw)
      rcases e1 with rfl | rfl <;> exact low_lit (by decide +kernel)
    rw [e]
    unfold colOf
    refine ⟨?_, ?_⟩
    · rw [if_neg, if_pos]
      · rfl
      · exact ⟨rfl, e1⟩
      · rintro (z | z | z)
        · exact absurd z (by simp)
        · have z : isW nm = false := z
          rw [hw] at z
          cases z
        · exact hb z
    · show ¬ kd = _
      rcases e1 with rfl | rfl <;> decide
theorem nm_table {n : Str} (h : isW n = true) : nmOf (("table " : Str) ++ n) = some n := by
  unfold nmOf
  rw [ws_table h, if_pos]
  · rfl
  · show ((2 == 2) && ((("table" : Str) == ("table" : Str)) && isW n)) = true
    rw [h] <;> decide
theorem nm_col {names : List Str} {c : Col} (hn : ∀ t ∈ names, isW t = true) (h : ColOk names c) : nmOf (lnC c) = none := by
  unfold nmOf
  rw [if_neg]
  intro z
  simp only [Bool.and_eq_true, beq_iff_eq] at z
  exact (col_line hn h).2 z.2.1
theorem named_cols {names : List Str} (hn : ∀ t ∈ names, isW t = true) : ∀ {cs : List Col}, (∀ c ∈ cs, ColOk names c) → (cs.map lnC).filterMap nmOf = []
  | [], _ => rfl
  | c :: cs, h => by
    rw [List.map_cons, List.filterMap_cons, nm_col hn (h c (List.mem_cons_self ..))]
    exact named_cols hn fun d hd => h d (List.mem_cons_of_mem _ hd)
theorem named_lines {names : List Str} (hn : ∀ t ∈ names, isW t = true) : ∀ {ts : List Tab}, (∀ t ∈ ts, TabOk names t) → named (linesOf ts) = ts.map Prod.fst
  | [], _ => rfl
  | t :: ts, h => by
    have ih := named_lines hn (ts := ts) fun d hd => h d (List.mem_cons_of_mem _ hd)
    have ht := h t (List.mem_cons_self ..)
    unfold named linesOf at ih ⊢
    rw [List.flatMap_cons, List.filterMap_append, ih]
    unfold lnT
    rw [List.filterMap_cons, nm_table ht.w, named_cols hn ht.cols]
    rfl
theorem addCol_app : ∀ (acc : List Tab) (n : Str) (cs : List Col) (c : Col), c.name ∉ cs.map Col.name → cs.length < 6 → addCol (acc ++ [(n, cs)]) c = some (acc ++ [(n, cs ++ [c])])
  | [], n, cs, c, h1, h2 => by
    show (if _ then none else _) = _
    rw [if_neg]
    · rfl
    · rintro (z | z)
      · exact h1 z
      · omega
  | [t], n, cs, c, h1, h2 => by
    show (addCol ([] ++ [(n, cs)]) c).map (t :: ·) = _
    rw [addCol_app [] n cs c h1 h2] <;> rfl
  | t :: t' :: r, n, cs, c, h1, h2 => by
    show (addCol (t' :: r ++ [(n, cs)]) c).map (t :: ·) = _
    rw [addCol_app (t' :: r) n cs c h1 h2] <;> rfl
theorem read_cols {names : List Str} (hn : ∀ t ∈ names, isW t = true) (acc : List Tab) (n : Str) (more : List Str) : ∀ (cs done : List Col) (i : Nat), (∀ c ∈ cs, ColOk names c) → ((done ++ cs).map Col.name).Nodup → (done ++ cs).length ≤ 6 →
    ∃ j, readT names (cs.map lnC ++ more) (acc ++ [(n, done)]) i = readT names more (acc ++ [(n, done ++ cs)]) j
  | [], done, i, _, _, _ => ⟨i, by rw [List.append_nil] <;> rfl⟩
  | c :: cs, done, i, h, hd, hl => by
    obtain ⟨h1, h2⟩ := col_line hn (h c (List.mem_cons_self ..))
    have e1 : stepT names (acc ++ [(n, done)]) (wsOf (lnC c)) = some (acc ++ [(n, done ++ [c])]) := by
      unfold stepT
      rw [if_neg h2, h1]
      refine addCol_app acc n done c (fun z => ?_) ?_
      · rw [List.map_append, List.map_cons, List.nodup_append] at hd
        exact hd.2.2 _ z _ (List.mem_cons_self ..) rfl
      · rw [List.length_append, List.length_cons] at hl
        omega
    have e2 : done ++ c :: cs = (done ++ [c]) ++ cs := by rw [List.append_assoc] <;> rfl
    rw [e2] at hd hl
    obtain ⟨j, hj⟩ := read_cols hn acc n more cs (done ++ [c]) (i + 1) (fun d hd => h d (List.mem_cons_of_mem _ hd)) hd hl
    refine ⟨j, ?_⟩
    show readT names (lnC c :: (cs.map lnC ++ more)) _ i = _
    rw [readT, e1, e2]
    exact hj
theorem read_tabs {names : List Str} (hn : ∀ t ∈ names, isW t = true) : ∀ (ts acc : List Tab) (i : Nat), (∀ t ∈ ts, TabOk names t) → ((acc ++ ts).map Prod.fst).Nodup → (acc ++ ts).length ≤ 5 → readT names (linesOf ts) acc i = .ok (acc ++ ts)
  | [], acc, i, _, _, _ => by rw [List.append_nil] <;> rfl
  | (n, cs) :: ts, acc, i, h, hd, hl => by
    have ht := h (n, cs) (List.mem_cons_self ..)
    have e1 : stepT names acc (wsOf (("table " : Str) ++ n)) = some (acc ++ [(n, [])]) := by
      rw [ws_table ht.w]
      unfold stepT
      rw [if_pos (by rfl), if_neg]
      · rfl
      · rintro (z | z | z | z)
        · exact z rfl
        · have z : isW n = false := z
          rw [ht.w] at z
          cases z
        · rw [List.map_append, List.map_cons, List.nodup_append] at hd
          exact hd.2.2 _ z _ (List.mem_cons_self ..) rfl
        · rw [List.length_append, List.length_cons] at hl
          omega
    obtain ⟨j, hj⟩ := read_cols hn acc n (linesOf ts) cs [] (i + 1) ht.cols (by simpa using ht.nd) (by simpa using ht.few)
    have e2 : acc ++ (n, cs) :: ts = (acc ++ [(n, cs)]) ++ ts := by rw [List.append_assoc] <;> rfl
    have e3 : linesOf ((n, cs) :: ts) = (("table " : Str) ++ n) :: (cs.map lnC ++ linesOf ts) := rfl
    rw [e2] at hd hl ⊢
    rw [e3, readT, e1]
    refine hj.trans ?_
    rw [List.nil_append]
    exact read_tabs hn ts _ j (fun t ht => h t (List.mem_cons_of_mem _ ht)) hd hl
/-- THE READ-BACK: the lines of good tables give the tables -/
theorem read_lines {ts : List Tab} (h : TabsOk ts) : readT (named (linesOf ts)) (linesOf ts) [] 0 = .ok ts := by
  have hn : ∀ t ∈ ts.map Prod.fst, isW t = true := fun t ht => by
    obtain ⟨u, hu, rfl⟩ := List.mem_map.mp ht
    exact (h.tab u hu).w
  rw [named_lines hn h.tab]
  exact read_tabs hn ts [] 0 h.tab (by simpa using h.nd) (by simpa using h.few)
end Ow

/-! Ow.S3: data on the heap, tables on the heap -/
namespace Ow
open PySem PySem.Spec L2
/-- the heap without p -/
def less (p : Addr) (H : Hp) : Hp := fun a => if a = p then none else H a
theorem less_ne {p a : Addr} {H : Hp} (h : a ≠ p) : less p H a = H a := if_neg h
theorem less_some {p a : Addr} {H : Hp} {o : HO} (h : less p H a = some o) : a ≠ p ∧ H a = some o := by
  unfold less at h
  split at h
  · cases h
  · exact ⟨‹_›, h⟩
theorem less_same (p : Addr) (H : Hp) : Same (less p H) H := fun b o h => (less_some h).2
theorem less_keep {p : Addr} {H H' : Hp} (k : Keep p H H') : Same (less p H) (less p H') := fun b o h => by
  obtain ⟨h1, h2⟩ := less_some h
  rw [less_ne h1]
  exact k b o h1 h2
theorem less_mono {p : Addr} {H H' : Hp} (k : Same H H') : Same (less p H) (less p H') := less_keep (Keep.of k)
theorem same_upd {H : Hp} {a : Addr} {o : HO} (h : H a = none) : Same H (upd H a o) := fun b u e => by rw [upd_ne (ne_of_none e h)]; exact e
theorem Same.sqT {K : PySem.W.Frag} {H H' : Hp} {a : Addr} {xs : List V} (e : Same H H') (h : SqT K H a xs) : SqT K H' a xs := by
  rcases h with (h | ⟨o, h⟩) | h
  · exact .inl (.inl (e _ _ h))
  · exact .inl (.inr ⟨o, e _ _ h⟩)
  · exact .inr h
theorem Same.rd {H H' : Hp} {a : Addr} {u : HO} (e : Same H H') (h : Rd H a u) : Rd H' a u := h.elim (fun h => .inl (e _ _ h)) fun ⟨o, h⟩ => .inr ⟨o, e _ _ h⟩
/-! ### data -/
mutual
theorem Dp.same {K : PySem.W.Frag} {H H' : Hp} (e : Same H H') : ∀ (d : PyData) (v : V), Dp K H v d → Dp K H' v d
  | .none, _, h => by cases h; exact .non
  | .bool b, _, h => by cases h; exact .bl b
  | .int i, _, h => by cases h; exact .int i
  | .str x, _, h => by cases h; exact .str x
  | .list ds, _, h => by
    cases h with
    | lst hs ha => exact .lst (Same.seq e hs) (DpAll.same e ds _ ha)
  | .tuple ds, _, h => by
    cases h with
    | tup hs ha => exact .tup (Same.sqT e hs) (DpAll.same e ds _ ha)
  | .dict _, _, h => by cases h
theorem DpAll.same {K : PySem.W.Frag} {H H' : Hp} (e : Same H H') : ∀ (ds : List PyData) (vs : List V), DpAll K H vs ds → DpAll K H' vs ds
  | [], _, h => by cases h; exact .nil
  | d :: ds, _, h => by
    cases h with
    | cons h1 h2 => exact .cons (Dp.same e d _ h1) (DpAll.same e ds _ h2)
end
section
variable {K : PySem.W.Frag} {H : Hp}
theorem DpAll.len : ∀ {vs : List V} {ds : List PyData}, DpAll K H vs ds → vs.length = ds.length
  | [], _, h => by cases h; rfl
  | v :: vs, _, h => by
    cases h with
    | cons h1 h2 => rw [List.length_cons, List.length_cons, DpAll.len h2]
theorem DpAll.get : ∀ {vs : List V} {ds : List PyData} {i : Nat} {v : V}, DpAll K H vs ds → vs[i]? = some v → ∃ d, ds[i]? = some d ∧ Dp K H v d
  | [], _, i, v, h, e => by simp at e
  | v :: vs, _, i, u, h, e => by
    cases h with
    | cons h1 h2 =>
      cases i with
      | zero => exact ⟨_, rfl, by simpa using (show u = v by simpa using e.symm) ▸ h1⟩
      | succ i =>
        obtain ⟨d, h3, h4⟩ := DpAll.get (i := i) (v := u) h2 (by simpa using e)
        exact ⟨d, by simpa using h3, h4⟩
theorem DpAll.app : ∀ {vs us : List V} {ds es : List PyData}, DpAll K H vs ds → DpAll K H us es → DpAll K H (vs ++ us) (ds ++ es)
  | [], _, _, _, h, h' => by cases h; exact h'
  | v :: vs, _, _, _, h, h' => by
    cases h with
    | cons h1 h2 => exact .cons h1 (DpAll.app h2 h')
theorem DpAll.strs : ∀ (zs : List Str), DpAll K H (zs.map V.str) (zs.map PyData.str)
  | [] => .nil
  | z :: zs => .cons (.str z) (DpAll.strs zs)
theorem Dp.lst_inv {v : V} {ds : List PyData} (h : Dp K H v (.list ds)) : ∃ a xs, v = .ref a ∧ SqL K H a xs ∧ DpAll K H xs ds := by
  cases h with
  | lst hs ha => exact ⟨_, _, rfl, hs, ha⟩
theorem Dp.tup_inv {v : V} {ds : List PyData} (h : Dp K H v (.tuple ds)) : ∃ a xs, v = .ref a ∧ SqT K H a xs ∧ DpAll K H xs ds := by
  cases h with
  | tup hs ha => exact ⟨_, _, rfl, hs, ha⟩
end
/-! ### tables as data -/
def oD : Option Str → PyData
  | none => .none
  | some z => .str z
def oV : Option Str → V
  | none => .non
  | some z => .str z
theorem dp_oV {K : PySem.W.Frag} {H : Hp} : ∀ o : Option Str, Dp K H (oV o) (oD o)
  | none => .non
  | some z => .str z
theorem dp_oD {K : PySem.W.Frag} {H : Hp} {v : V} : ∀ {o : Option Str}, Dp K H v (oD o) → v = oV o
  | none, h => by cases h; rfl
  | some z, h => by cases h; rfl
def dCol (c : Col) : PyData := .tuple [.str c.name, .str c.kind, oD c.tgt, oD c.rule]
def dTab (t : Tab) : PyData := .tuple [.str t.1, .list (t.2.map dCol)]
def dTabs (ts : List Tab) : PyData := .list (ts.map dTab)
section
variable {K : PySem.W.Frag} {H : Hp}
theorem dCol_inv {v : V} {c : Col} (h : Dp K H v (dCol c)) : ∃ a, v = .ref a ∧ SqT K H a [.str c.name, .str c.kind, oV c.tgt, oV c.rule] := by
  obtain ⟨a, xs, e, hs, ha⟩ := Dp.tup_inv h
  refine ⟨a, e, ?_⟩
  cases ha with
  | cons h1 h2 => cases h2 with
    | cons h2 h3 => cases h3 with
      | cons h3 h4 => cases h4 with
        | cons h4 h5 =>
          cases h5
          cases h1
          cases h2
          rw [dp_oD h3, dp_oD h4] at hs
          exact hs
theorem dTab_inv {v : V} {t : Tab} (h : Dp K H v (dTab t)) : ∃ a l, v = .ref a ∧ SqT K H a [.str t.1, .ref l] ∧ Dp K H (.ref l) (.list (t.2.map dCol)) := by
  obtain ⟨a, xs, e, hs, ha⟩ := Dp.tup_inv h
  cases ha with
  | cons h1 h2 => cases h2 with
    | cons h2 h3 =>
      cases h3
      cases h1
      obtain ⟨l, ys, rfl, _⟩ := Dp.lst_inv h2
      exact ⟨a, l, e, hs, h2⟩
/-- the i-th of a list of data -/
theorem dp_at {α : Type} {f : α → PyData} {xs : List V} {l : List α} {i : Nat} {v : V} (h : DpAll K H xs (l.map f)) (e : xs[i]? = some v) : ∃ x, l[i]? = some x ∧ Dp K H v (f x) := by
  obtain ⟨d, e1, e2⟩ := DpAll.get h e
  rw [List.getElem?_map] at e1
  obtain ⟨x, e3, rfl⟩ := Option.map_eq_some_iff.mp e1
  exact ⟨x, e3, e2⟩
end
/-! ### tables as dicts -/
def KVs : Type := List (Key × V)
def tol (c : Col) : HO := .tup [.str c.kind, oV c.tgt, oV c.rule]
/-- a table's dict: its columns -/
inductive Cols (H : Hp) : List (Key × V) → List Col → Prop
  | nil : Cols H [] []
  | cons {a : Addr} {c : Col} {r : List (Key × V)} {cs : List Col} : H a = some (tol c) → Cols H r cs → Cols H ((Sum.inr c.name, .ref a) :: r) (c :: cs)
/-- a schema's dict, each table's dict locked -/
inductive Tabs (H : Hp) : List (Key × V) → List Tab → Prop
  | nil : Tabs H [] []
  | cons {a : Addr} {o : Obj} {n : Str} {kvs r : List (Key × V)} {cs : List Col} {ts : List Tab} : H a = some (.frz o (.dK kvs)) → Cols H kvs cs → Tabs H r ts → Tabs H ((Sum.inr n, .ref a) :: r) ((n, cs) :: ts)
/-- .. not locked yet -/
inductive Tabs0 (H : Hp) : List (Key × V) → List Tab → Prop
  | nil : Tabs0 H [] []
  | cons {a : Addr} {n : Str} {kvs r : List (Key × V)} {cs : List Col} {ts : List Tab} : H a = some (.dK kvs) → Cols H kvs cs → (∀ q ∈ r, q.2 ≠ .ref a) → Tabs0 H r ts → Tabs0 H ((Sum.inr n, .ref a) :: r) ((n, cs) :: ts)
section
variable {H H' : Hp}
theorem Cols.same (e : Same H H') : ∀ {kvs : List (Key × V)} {cs : List Col}, Cols H kvs cs → Cols H' kvs cs
  | _, _, .nil => .nil
  | _, _, .cons h1 h2 => .cons (e _ _ h1) (h2.same e)
theorem Tabs.same (e : Same H H') : ∀ {kvs : List (Key × V)} {ts : List Tab}, Tabs H kvs ts → Tabs H' kvs ts
  | _, _, .nil => .nil
  | _, _, .cons h1 h2 h3 => .cons (e _ _ h1) (h2.same e) (h3.same e)
/-- a change of a dict leaves the tuples -/
theorem Cols.upd {p : Addr} {o u : HO} (hp : H p = some u) (hu : ∀ xs, u ≠ .tup xs) : ∀ {kvs : List (Key × V)} {cs : List Col}, Cols H kvs cs → Cols (upd H p o) kvs cs
  | _, _, .nil => .nil
  | _, _, .cons h1 h2 => .cons (by rw [upd_ne (ne_of h1 hp fun z => hu _ z.symm)]; exact h1) (h2.upd hp hu)
theorem Cols.keys : ∀ {kvs : List (Key × V)} {cs : List Col}, Cols H kvs cs → kvs.map (fun kv => kV kv.1) = cs.map fun c => V.str c.name
  | _, _, .nil => rfl
  | _, _, .cons h1 h2 => by rw [List.map_cons, List.map_cons, h2.keys] <;> rfl
theorem Tabs.keys : ∀ {kvs : List (Key × V)} {ts : List Tab}, Tabs H kvs ts → kvs.map (fun kv => kV kv.1) = ts.map fun t => V.str t.1
  | _, _, .nil => rfl
  | _, _, .cons h1 h2 h3 => by rw [List.map_cons, List.map_cons, h3.keys] <;> rfl
theorem Tabs0.keys : ∀ {kvs : List (Key × V)} {ts : List Tab}, Tabs0 H kvs ts → kvs.map (fun kv => kV kv.1) = ts.map fun t => V.str t.1
  | _, _, .nil => rfl
  | _, _, .cons h1 h2 _ h3 => by rw [List.map_cons, List.map_cons, h3.keys] <;> rfl
theorem Cols.len {kvs : List (Key × V)} {cs : List Col} (h : Cols H kvs cs) : kvs.length = cs.length := by
  have e := congrArg List.length h.keys
  rwa [List.length_map, List.length_map] at e
theorem Tabs.len {kvs : List (Key × V)} {ts : List Tab} (h : Tabs H kvs ts) : kvs.length = ts.length := by
  have e := congrArg List.length h.keys
  rwa [List.length_map, List.length_map] at e
theorem Tabs0.len {kvs : List (Key × V)} {ts : List Tab} (h : Tabs0 H kvs ts) : kvs.length = ts.length := by
  have e := congrArg List.length h.keys
  rwa [List.length_map, List.length_map] at e
end
theorem valV_cons {k k' : Key} {v : V} {r : List (Key × V)} : valV ((k, v) :: r) k' = if k = k' then some v else valV r k' := by
  unfold valV
  rw [List.find?_cons]
  by_cases h : k = k'
  · simp [h]
  · simp [h]
theorem inr_inj {a b : Str} : ((Sum.inr a : Key) = Sum.inr b) ↔ a = b := ⟨fun h => by cases h; rfl, fun h => by rw [h]⟩
section
variable {H H' : Hp}
def colAt (cs : List Col) (x : Str) : Option Col := cs.find? fun c => decide (c.name = x)
def tabAt (ts : List Tab) (x : Str) : Option (List Col) := (ts.find? fun t => decide (t.1 = x)).map Prod.snd
theorem colAt_cons {c : Col} {cs : List Col} {x : Str} : colAt (c :: cs) x = if c.name = x then some c else colAt cs x := by
  unfold colAt
  rw [List.find?_cons]
  by_cases h : c.name = x <;> simp [h]
theorem tabAt_cons {n : Str} {cs : List Col} {ts : List Tab} {x : Str} : tabAt ((n, cs) :: ts) x = if n = x then some cs else tabAt ts x := by
  unfold tabAt
  rw [List.find?_cons]
  by_cases h : n = x <;> simp [h]
theorem colAt_none {cs : List Col} {x : Str} : colAt cs x = none ↔ x ∉ cs.map Col.name := by
  unfold colAt
  rw [List.find?_eq_none, List.mem_map]
  constructor
  · rintro h ⟨c, hc, rfl⟩
    exact h c hc (by simp)
  · intro h c hc z
    exact h ⟨c, hc, by simpa using z⟩
theorem tabAt_none {ts : List Tab} {x : Str} : tabAt ts x = none ↔ x ∉ ts.map Prod.fst := by
  unfold tabAt
  rw [Option.map_eq_none_iff, List.find?_eq_none, List.mem_map]
  constructor
  · rintro h ⟨c, hc, rfl⟩
    exact h c hc (by simp)
  · intro h c hc z
    exact h ⟨c, hc, by simpa using z⟩
theorem Cols.val {x : Str} : ∀ {kvs : List (Key × V)} {cs : List Col}, Cols H kvs cs → (colAt cs x = none ∧ valV kvs (Sum.inr x) = none) ∨ ∃ c a, colAt cs x = some c ∧ valV kvs (Sum.inr x) = some (.ref a) ∧ H a = some (tol c)
  | _, _, .nil => .inl ⟨rfl, rfl⟩
  | _, _, .cons (a := a) (c := c) h1 h2 => by
    rw [colAt_cons, valV_cons]
    by_cases h : c.name = x
    · rw [if_pos h, if_pos (inr_inj.mpr h)]
      exact .inr ⟨c, a, rfl, rfl, h1⟩
    · rw [if_neg h, if_neg (fun z => h (inr_inj.mp z))]
      exact h2.val
theorem Tabs.val {x : Str} : ∀ {kvs : List (Key × V)} {ts : List Tab}, Tabs H kvs ts → (tabAt ts x = none ∧ valV kvs (Sum.inr x) = none) ∨
    ∃ cs a o kvs', tabAt ts x = some cs ∧ valV kvs (Sum.inr x) = some (.ref a) ∧ H a = some (.frz o (.dK kvs')) ∧ Cols H kvs' cs
  | _, _, .nil => .inl ⟨rfl, rfl⟩
  | _, _, .cons (n := n) h1 h2 h3 => by
    rw [tabAt_cons, valV_cons]
    by_cases h : n = x
    · rw [if_pos h, if_pos (inr_inj.mpr h)]
      exact .inr ⟨_, _, _, _, rfl, rfl, h1, h2⟩
    · rw [if_neg h, if_neg (fun z => h (inr_inj.mp z))]
      exact h3.val
theorem Tabs0.val {x : Str} : ∀ {kvs : List (Key × V)} {ts : List Tab}, Tabs0 H kvs ts → (tabAt ts x = none ∧ valV kvs (Sum.inr x) = none) ∨
    ∃ cs a kvs', tabAt ts x = some cs ∧ valV kvs (Sum.inr x) = some (.ref a) ∧ H a = some (.dK kvs') ∧ Cols H kvs' cs
  | _, _, .nil => .inl ⟨rfl, rfl⟩
  | _, _, .cons (n := n) h1 h2 _ h3 => by
    rw [tabAt_cons, valV_cons]
    by_cases h : n = x
    · rw [if_pos h, if_pos (inr_inj.mpr h)]
      exact .inr ⟨_, _, _, rfl, rfl, h1, h2⟩
    · rw [if_neg h, if_neg (fun z => h (inr_inj.mp z))]
      exact h3.val
end
end Ow

/-! Ow.S4: the schemas' module: its facts, its promises -/
namespace Ow
open PySem PySem.Spec PyProof.Rows L2
/-! ### constants of a module -/
section
variable {X : Cx} {x : Str} {pos : Pos}
theorem pe_gs {z : Str} (h : ∃ t, X.mg x = some (.str z t)) (hg : Gl X x) (hd : (x == ("__debug__" : Str)) = false := by decide) : PE X (.Name x pos) (tC (.str z)) := by
  obtain ⟨t, h⟩ := h
  exact pe_glob hg h ⟨t, rfl⟩ hd
theorem pe_gi {i : Int} (h : ∃ t, X.mg x = some (.int i t)) (hg : Gl X x) (hd : (x == ("__debug__" : Str)) = false := by decide) : PE X (.Name x pos) (tC (.int i)) := by
  obtain ⟨t, h⟩ := h
  exact pe_glob hg h ⟨t, rfl⟩ hd
def tGT (K : PySem.W.Frag) (xs : List V) : TE := fun σ H Q => ∀ a, (∀ H, SqT K H a xs) → Q (.ref a) H
theorem pe_gt {xs : List V} {K : PySem.W.Frag} (h : ∃ a, X.mg x = some (.ref a) ∧ ∀ H, SqT K H a xs) (hg : Gl X x) (hd : (x == ("__debug__" : Str)) = false := by decide) : PE X (.Name x pos) (tGT K xs) := by
  obtain ⟨a, h, ha⟩ := h
  have p : PE X (.Name x pos) (tC (.ref a)) := pe_glob hg h rfl hd
  exact ⟨fun pins s σ H Q I hw => p.run pins s σ H Q I (hw a ha)⟩
end
structure ScC (K : PySem.W.Frag) (mg : Str → Option Value) : Prop where
  LETTERS : ∃ t, mg "LETTERS" = some (.str LET t)
  MOST_TABLES : ∃ t, mg "MOST_TABLES" = some (.int 5 t)
  MOST_COLUMNS : ∃ t, mg "MOST_COLUMNS" = some (.int 6 t)
  VALUE : ∃ t, mg "VALUE" = some (.str ("value" : Str) t)
  FLAG : ∃ t, mg "FLAG" = some (.str ("flag" : Str) t)
  LINK : ∃ t, mg "LINK" = some (.str ("link" : Str) t)
  BARRED : ∃ a, mg "BARRED" = some (.ref a) ∧ ∀ H, SqT K H a (BAR.map V.str)
  RULES : ∃ a, mg "RULES" = some (.ref a) ∧ ∀ H, SqT K H a (RUL.map V.str)
  all : mg "all" = none
  enumerate : mg "enumerate" = none
  str : mg "str" = none
  isinstance : mg "isinstance" = none
  tuple : mg "tuple" = none
  len : mg "len" = none
  any : mg "any" = none
  list : mg "list" = none
/-! ### methods by name -/
abbrev MtP (K : PySem.W.Frag) (m qual : Str) (st : Stmt) (f : Addr) (fd : FuncData) : Prop := FunD K m qual (defArgs st) (defBody st) (defScope st) [] [] f fd
def MtD (K : PySem.W.Frag) (cls m qual : Str) (st : Stmt) : Prop := ∃ f fd, MtP K m qual st f fd ∧ Meth K (He.ga K cls) m f
def MtAt (P : Program) (w : World) (K : PySem.W.Frag) (mg : Str → Option Value) (base : Heap) (cls m : Str) (ps : List Str) (k : Nat) (sp : Sp) : Prop :=
  ∃ f fd, Meth K (He.ga K cls) m f ∧ Binds K fd ps [] ∧ FnOk P w K mg base CX0 k f fd ps sp
section
variable {P : Program} {w : World} {K : PySem.W.Frag} {mg : Str → Option Value} {base : Heap}
theorem mt_at {cls m qual : Str} {st : Stmt} {N ps : List Str} {k : Nat} {sp : Sp} (T : MtD K cls m qual st) (S : FnScope N ps (defScope st))
    (hb : ∀ (kV doc pm : Value) (an : Option Addr) (cdv ct : Value) (us : List Value), us.length = ps.length → bindArgs (PySem.W.fnOf m qual (defArgs st) (defBody st) (defScope st) .none kV doc pm an cdv ct) ⟨us, []⟩ = pure (ps.zip us))
    (len : ∀ vs H Q E, sp vs H Q E → vs.length = ps.length)
    (hbody : ∀ (f : Addr) (cdv : Value) (A : Around) (outer : List Env) (s : Shared) (H : Hp) (vs : List V) (Q : VK) (E : XK), Room k (A.deeper (envOfC qual (defScope st) s.heap.objs.size f cdv)) → sp vs H Q E →
      ∃ t, PSs (cxOf CX0 P w K mg base N qual (defScope st) f cdv A outer s H E).nox (defBody st) t ∧ t { nx := fun _ H' => Q .non H', rt := Q } (start N vs) H) : MtAt P w K mg base cls m ps (k + 1) sp := by
  obtain ⟨f, fd, F, hm⟩ := T
  refine ⟨f, fd, hm, F.bindsN hb, F.ok S len fun cdv A outer s H vs Q E hr h => ?_⟩
  obtain ⟨t, h1, h2⟩ := hbody f cdv A outer s H vs Q E hr h
  exact ⟨t, h1.nox, h2⟩
end
section
variable {X : Cx} {cls m x : Str} {p apos pos : Pos} {o e : Expr} {es : List Expr} {t : TA} {ta : TE} {ps : List Str} {k : Nat} {sp : Sp}
theorem pe_mt {pl : Sem Bool} (F : MtAt X.prog X.w X.K X.mg X.base cls m ps k sp) (c : Cls X.K (He.ga X.K cls)) (hr : Room k X.A) (ho : PE X o ta) (ha : PA X (e :: es) t)
    (hst : starEach (e :: es) X.env = (false, eval e X.env) :: starEach es X.env := by rfl) (hpl : (backTo pos (starEach es X.env)).any (·.1) = false := by rfl)
    (ht : eval (.Call (.Attribute o m apos) (e :: es) [] pos) X.env = (do
      let ov ← eval o X.env
      standAt apos.atName
      let (f, first) ← holding [ov] (getMethod ov m pl)
      callWith pos f first (backTo pos (starEach (e :: es) X.env)) (backToKw pos (keywordEach [] X.env))) := by rfl) :
    PE X (.Call (.Attribute o m apos) (e :: es) [] pos) (tMeth (He.ga X.K cls) m sp [] E0 ta t) := by
  obtain ⟨f, fd, h1, h2, h3⟩ := F
  exact pe_meth ho c h1 h3 hr h2 .nil pass0 ha hst hpl ht
theorem pe_mk {kf : Str} (F : MtAt X.prog X.w X.K X.mg X.base cls "__init__" ps k sp) (c : ∃ f, Mk X.K (He.ga X.K cls) f) (hr : Room (k + 1) X.A) (hg : Gl X cls) (hm : X.mg cls = some (.ref (He.ga X.K cls))) (ha : PA X (e :: es) t)
    (hdb : (cls == ("__debug__" : Str)) = false := by decide) (he : starEach (e :: es) X.env = (false, eval e X.env) :: starEach es X.env := by rfl) (hpl : (backTo pos (starEach es X.env)).any (·.1) = false := by rfl) :
    PE X (.Call (.Name cls p) (e :: es) [] pos) (tMake (He.ga X.K cls) sp [] E0 t) := by
  obtain ⟨f, fd, h1, h2, h3⟩ := F
  obtain ⟨f', M⟩ := c
  have e1 : f' = f := by
    have z := M.init.symm.trans h1.at_
    cases z
    rfl
  subst e1
  exact pe_make M h3 hr hg hm h2 .nil pass0 ha hdb he hpl
end
/-! ### promises -/
/-- a Schema, with its text and its tables -/
def SchAt (K : PySem.W.Frag) (H : Hp) (x : Addr) (z : Str) (ts : List Tab) : Prop := ∃ (dx d tp : Addr) (o : Obj) (kvs : List (Key × V)),
  H x = some (.ins (He.ga K "Schema") dx [(("text" : Str), .str z), (("found" : Str), .ref d), (("tables" : Str), .ref tp)]) ∧ H d = some (.frz o (.dK kvs)) ∧ Tabs H kvs ts ∧ H tp = some (.tup (ts.map fun t => .str t.1))
theorem SchAt.same {K : PySem.W.Frag} {H H' : Hp} {x : Addr} {z : Str} {ts : List Tab} (h : SchAt K H x z ts) (e : Same H H') : SchAt K H' x z ts := by
  obtain ⟨dx, d, tp, o, kvs, h1, h2, h3, h4⟩ := h
  exact ⟨dx, d, tp, o, kvs, e _ _ h1, e _ _ h2, h3.same e, e _ _ h4⟩
theorem Cols.less {p : Addr} {H : Hp} {u : HO} (hp : H p = some u) (hu : ∀ xs, u ≠ .tup xs) : ∀ {kvs : List (Key × V)} {cs : List Col}, Cols H kvs cs → Cols (less p H) kvs cs
  | _, _, .nil => .nil
  | _, _, .cons h1 h2 => .cons (by rw [less_ne (ne_of h1 hp fun z => hu _ z.symm)]; exact h1) (h2.less hp hu)
theorem Tabs.less {p : Addr} {H : Hp} {ys : List V} (hp : H p = some (.lst ys)) : ∀ {kvs : List (Key × V)} {ts : List Tab}, Tabs H kvs ts → Tabs (less p H) kvs ts
  | _, _, .nil => .nil
  | _, _, .cons h1 h2 h3 => .cons (by rw [less_ne (ne_of h1 hp fun z => nomatch z)]; exact h1) (h2.less hp fun _ z => nomatch z) (h3.less hp)
/-- a pool is no part of a Schema -/
theorem SchAt.less {K : PySem.W.Frag} {p : Addr} {H : Hp} {ys : List V} (hp : H p = some (.lst ys)) {x : Addr} {z : Str} {ts : List Tab} (h : SchAt K H x z ts) : SchAt K (less p H) x z ts := by
  obtain ⟨dx, d, tp, o, kvs, h1, h2, h3, h4⟩ := h
  refine ⟨dx, d, tp, o, kvs, ?_, ?_, h3.less hp, ?_⟩
  · rw [less_ne (ne_of h1 hp fun z => nomatch z)]; exact h1
  · rw [less_ne (ne_of h2 hp fun z => nomatch z)]; exact h2
  · rw [less_ne (ne_of h4 hp fun z => nomatch z)]; exact h4
def Short (ls : List Str) : Prop := ls.length ≤ 1000 ∧ ∀ z ∈ ls, z.length ≤ 100000
def spIsW : Sp := fun vs H Q _ => ∃ z : Str, vs = [.str z] ∧ z.length ≤ 100000 ∧ ∀ H', Same H H' → Q (.bl (isW z)) H'
def spNamed (K : PySem.W.Frag) : Sp := fun vs H Q _ => ∃ (l : Addr) (ls : List Str), vs = [.ref l] ∧ SqL K H l (ls.map V.str) ∧ Short ls ∧
  ∀ H' p, Same H H' → H p = none → H' p = some (.lst ((named ls).map V.str)) → Q (.ref p) H'
def spColOf (K : PySem.W.Frag) : Sp := fun vs H Q _ => ∃ (l m : Addr) (ws ns : List Str), vs = [.ref l, .ref m] ∧ SqL K H l (ws.map V.str) ∧ SqL K H m (ns.map V.str) ∧ (∀ z ∈ ws, z.length ≤ 100000) ∧
  (colOf ws ns = none → ∀ H', Same H H' → Q .non H') ∧ ∀ c, colOf ws ns = some c → ∀ H' p t, Same H H' → H' p = some (.tup [.str c.name, .ref t]) → H' t = some (tol c) → Q (.ref p) H'
def spRead (K : PySem.W.Frag) : Sp := fun vs H Q _ => ∃ (l : Addr) (ls : List Str) (ts : List Tab), vs = [.ref l] ∧ SqL K H l (ls.map V.str) ∧ Short ls ∧ readT (named ls) ls [] 0 = .ok ts ∧
  ∀ H' d o kvs, Same H H' → H' d = some (.frz o (.dK kvs)) → Tabs H' kvs ts → Q (.ref d) H'
def linesIn (z : Str) : List Str := Txt.split z ("\n" : Str)
def spInit (K : PySem.W.Frag) : Sp := fun vs H Q _ => ∃ (x dx : Addr) (z : Str) (ts : List Tab), vs = [.ref x, .str z] ∧ H x = some (.ins (He.ga K "Schema") dx []) ∧ z.length ≤ 100000 ∧ Short (linesIn z) ∧ readT (named (linesIn z)) (linesIn z) [] 0 = .ok ts ∧
  ∀ H', (∀ b o, b ≠ x → H b = some o → H' b = some o) → SchAt K H' x z ts → Q .non H'
def spColumns (K : PySem.W.Frag) : Sp := fun vs H Q _ => ∃ (x : Addr) (z t : Str) (ts : List Tab) (cs : List Col), vs = [.ref x, .str t] ∧ SchAt K H x z ts ∧ tabAt ts t = some cs ∧
  ∀ H' q, Same H H' → H q = none → H' q = some (.tup (cs.map fun c => .str c.name)) → Q (.ref q) H'
def spTold (K : PySem.W.Frag) : Sp := fun vs H Q _ => ∃ (x : Addr) (z t y : Str) (ts : List Tab) (cs : List Col) (c : Col), vs = [.ref x, .str t, .str y] ∧ SchAt K H x z ts ∧ tabAt ts t = some cs ∧ colAt cs y = some c ∧
  ∀ H' a, Same H H' → H' a = some (tol c) → Q (.ref a) H'
def spPart (K : PySem.W.Frag) (f : Col → V) : Sp := fun vs H Q _ => ∃ (x : Addr) (z t y : Str) (ts : List Tab) (cs : List Col) (c : Col), vs = [.ref x, .str t, .str y] ∧ SchAt K H x z ts ∧ tabAt ts t = some cs ∧ colAt cs y = some c ∧
  ∀ H', Same H H' → Q (f c) H'
/-- the links that lead to a table -/
def linksTo (ts : List Tab) (t : Str) : List (Str × Str) := ts.flatMap fun u => (u.2.filter fun c => decide (c.tgt = some t)).map fun c => (u.1, c.name)
def dPr (p : Str × Str) : PyData := .tuple [.str p.1, .str p.2]
def spLinks (K : PySem.W.Frag) : Sp := fun vs H Q _ => ∃ (x : Addr) (z t : Str) (ts : List Tab) (cs : List Col), vs = [.ref x, .str t] ∧ SchAt K H x z ts ∧ tabAt ts t = some cs ∧ (ts.map Prod.fst).Nodup ∧ ts.length ≤ 5 ∧ (∀ u ∈ ts, u.2.length ≤ 6) ∧
  ∀ H' l xs, Same H H' → H l = none → H' l = some (.lst xs) → DpAll K H' xs ((linksTo ts t).map dPr) → (∀ a, V.ref a ∈ xs → H a = none) → Q (.ref l) H'
/-! ### steps -/
theorem inV_str {z : Str} : ∀ {l : List Str}, inV (.str z) (l.map V.str) = decide (z ∈ l)
  | [] => by simp [inV]
  | y :: l => by
    have ih := inV_str (z := z) (l := l)
    unfold inV at ih ⊢
    rw [List.map_cons, List.any_cons, ih]
    have e : eqV (V.str y) (V.str z) = (y == z) := rfl
    rw [e]
    by_cases h : z = y
    · subst h; simp
    · have h' : ¬ y = z := fun q => h q.symm
      simp [h, h']
theorem flat_strs : ∀ l : List Str, (l.map V.str).all flatV = true
  | [] => rfl
  | _ :: l => by rw [List.map_cons, List.all_cons, flat_strs l] <;> rfl
end Ow

/-! Ow.S5: words of a line, their number and lengths -/
namespace Ow
open PySem PySem.Spec L2 TL
theorem spl_ne (S : List Nat) : ∀ (x : List Nat) (k : Nat) (acc : List Nat), spl S k acc x ≠ []
  | [], k, acc => by rw [spl_nil]; simp
  | c :: x, 0, acc => by
    show (if pre S (c :: x) = true then acc :: spl S (S.length - 1) [] x else spl S 0 (acc ++ [c]) x) ≠ []
    split
    · simp
    · exact spl_ne S x _ _
  | c :: x, k + 1, acc => spl_ne S x k acc
theorem split_ne {x y : Str} (hy : tl y ≠ []) (hk : y.cps.all (· < 256) = true) : Txt.split x y ≠ [] := fun z => by
  have e := split_spl x y hy (kind_ok hk)
  rw [z] at e
  exact spl_ne _ _ _ _ e.symm
theorem joinL_len (S : List Nat) : ∀ {ps : List (List Nat)} {p : List Nat}, p ∈ ps → p.length ≤ (joinL S ps).length
  | [], _, h => nomatch h
  | [q], p, h => by
    rw [List.mem_singleton.mp h]
    exact Nat.le_refl _
  | q :: r :: t, p, h => by
    show _ ≤ (q ++ (S ++ joinL S (r :: t))).length
    rw [List.length_append, List.length_append]
    rcases List.mem_cons.mp h with rfl | h
    · omega
    · have := joinL_len S h
      omega
theorem split_len {x y z : Str} (h : z ∈ Txt.split x y) : z.length ≤ x.length := by
  have e := StrLaws.join_split x y
  rw [len_tl z, len_tl x, ← e, tl_join]
  exact joinL_len _ (List.mem_map_of_mem h)
theorem ws_ne (line : Str) : wsOf line ≠ [] := split_ne (by decide +kernel) (by decide +kernel)
theorem ws_len {line z : Str} (h : z ∈ wsOf line) : z.length ≤ line.length := split_len h
theorem wd_some {ws : List Str} {i : Nat} (h : i < ws.length) : ws[i]? = some (wd ws i) := by
  unfold wd
  rw [List.getD_eq_getElem?_getD, List.getElem?_eq_getElem h] <;> rfl
theorem wd_mem {ws : List Str} {i : Nat} (h : i < ws.length) : wd ws i ∈ ws := List.mem_of_getElem? (wd_some h)
theorem wd_at {ws : List Str} {i : Nat} (h : i < ws.length) : atI (ws.map V.str) (i : Int) = some (.str (wd ws i)) := atI_nat (by rw [List.getElem?_map, wd_some h] <;> rfl)
end Ow

/-! Ow.S6: the dicts of a schema while it is read -/
namespace Ow
open PySem PySem.Spec L2
def Ads (kvs : List (Key × V)) (b : Addr) : Prop := ∃ e ∈ kvs, e.2 = V.ref b
theorem Ads.cons {k : Key} {a b : Addr} {r : List (Key × V)} : Ads ((k, .ref a) :: r) b ↔ b = a ∨ Ads r b := by
  constructor
  · rintro ⟨e, h1, h2⟩
    rcases List.mem_cons.mp h1 with rfl | h1
    · left
      injection h2 with h2
      exact h2.symm
    · exact .inr ⟨e, h1, h2⟩
  · rintro (rfl | ⟨e, h1, h2⟩)
    · exact ⟨_, List.mem_cons_self .., rfl⟩
    · exact ⟨e, List.mem_cons_of_mem _ h1, h2⟩
section
variable {H : Hp}
theorem Tabs0.dk {b : Addr} : ∀ {kvs : List (Key × V)} {ts : List Tab}, Tabs0 H kvs ts → Ads kvs b → ∃ k', H b = some (.dK k')
  | _, _, .nil, h => by
    obtain ⟨e, h, _⟩ := h
    cases h
  | _, _, .cons h1 h2 h3 h4, h => by
    rcases Ads.cons.mp h with rfl | h
    · exact ⟨_, h1⟩
    · exact h4.dk h
theorem Cols.agree {H' : Hp} (e : ∀ b xs, H b = some (.tup xs) → H' b = some (.tup xs)) : ∀ {kvs : List (Key × V)} {cs : List Col}, Cols H kvs cs → Cols H' kvs cs
  | _, _, .nil => .nil
  | _, _, .cons h1 h2 => .cons (e _ _ h1) (h2.agree e)
/-- what stands elsewhere may change -/
theorem Tabs0.agree {H' : Hp} (e : ∀ b xs, H b = some (.tup xs) → H' b = some (.tup xs)) : ∀ {kvs : List (Key × V)} {ts : List Tab}, Tabs0 H kvs ts → (∀ b, Ads kvs b → H' b = H b) → Tabs0 H' kvs ts
  | _, _, .nil, _ => .nil
  | _, _, .cons h1 h2 h3 h4, d => .cons (by rw [d _ (Ads.cons.mpr (.inl rfl))]; exact h1) (h2.agree e) h3 (h4.agree e fun b hb => d b (Ads.cons.mpr (.inr hb)))
theorem Tabs0.updO {p : Addr} {o u : HO} (hp : H p = some u) (hu : ∀ xs, u ≠ .tup xs) {kvs : List (Key × V)} {ts : List Tab} (h : Tabs0 H kvs ts) (n : ¬ Ads kvs p) : Tabs0 (upd H p o) kvs ts := by
  refine h.agree (fun b xs e => ?_) fun b hb => ?_
  · rw [upd_ne (ne_of e hp fun z => hu _ z.symm)]; exact e
  · rw [upd_ne (fun z : b = p => n (by rw [← z]; exact hb))]
theorem Tabs0.updN {p : Addr} {o : HO} (hp : H p = none) {kvs : List (Key × V)} {ts : List Tab} (h : Tabs0 H kvs ts) : Tabs0 (upd H p o) kvs ts := by
  refine h.agree (fun b xs e => ?_) fun b hb => ?_
  · rw [upd_ne (ne_of_none e hp)]; exact e
  · obtain ⟨k', e⟩ := h.dk hb
    rw [upd_ne (ne_of_none e hp)]
theorem Tabs0.same {H' : Hp} (e : Same H H') {kvs : List (Key × V)} {ts : List Tab} (h : Tabs0 H kvs ts) : Tabs0 H' kvs ts := by
  refine h.agree (fun b xs q => e _ _ q) fun b hb => ?_
  obtain ⟨k', q⟩ := h.dk hb
  rw [q]
  exact e _ _ q
theorem ads_app {kvs r : List (Key × V)} {b : Addr} : Ads (kvs ++ r) b ↔ Ads kvs b ∨ Ads r b := by
  constructor
  · rintro ⟨e, h1, h2⟩
    rcases List.mem_append.mp h1 with h1 | h1
    · exact .inl ⟨e, h1, h2⟩
    · exact .inr ⟨e, h1, h2⟩
  · rintro (⟨e, h1, h2⟩ | ⟨e, h1, h2⟩)
    · exact ⟨e, List.mem_append_left _ h1, h2⟩
    · exact ⟨e, List.mem_append_right _ h1, h2⟩
/-- one more table -/
theorem Tabs0.more {a : Addr} {n : Str} (ha : H a = some (.dK [])) : ∀ {kvs : List (Key × V)} {ts : List Tab}, Tabs0 H kvs ts → ¬ Ads kvs a → Tabs0 H (kvs ++ [(Sum.inr n, .ref a)]) (ts ++ [(n, [])])
  | _, _, .nil, _ => .cons ha .nil (fun _ h => nomatch h) .nil
  | _, _, .cons (a := b) h1 h2 h3 h4, d => by
    refine .cons h1 h2 (fun q hq => ?_) (h4.more ha fun z => d (Ads.cons.mpr (.inr z)))
    rcases List.mem_append.mp hq with hq | hq
    · exact h3 q hq
    · rw [List.mem_singleton.mp hq]
      intro z
      injection z with z
      exact d (Ads.cons.mpr (.inl z))
theorem putK_new {kvs : List (Key × V)} {k : Key} {v : V} (h : valV kvs k = none) : putK kvs k v = kvs ++ [(k, v)] := by
  unfold putK
  unfold valV at h
  rw [Option.map_eq_none_iff, List.find?_eq_none] at h
  have e : (kvs.any fun kv => decide (kv.1 = k)) = false := by
    rw [Bool.eq_false_iff]
    intro z
    obtain ⟨x, hx, hk⟩ := List.any_eq_true.mp z
    exact h x hx hk
  first
    | rw [if_neg (by rw [e]; simp)]
    | simp [e]
theorem cols_more {kvs : List (Key × V)} {cs : List Col} {c : Col} {t : Addr} (ht : H t = some (tol c)) (h : Cols H kvs cs) : Cols H (kvs ++ [(Sum.inr c.name, .ref t)]) (cs ++ [c]) := by
  induction h with
  | nil => exact .cons ht .nil
  | cons h1 h2 ih => exact .cons h1 ih
/-- the last table's dict, and one more column there -/
theorem Tabs0.last {n : Str} {cs : List Col} : ∀ {acc : List Tab} {kvs : List (Key × V)}, Tabs0 H kvs (acc ++ [(n, cs)]) → n ∉ acc.map Prod.fst → ∃ a k', valV kvs (Sum.inr n) = some (.ref a) ∧ H a = some (.dK k') ∧ Cols H k' cs ∧ Ads kvs a ∧
    ∀ (c : Col) (t : Addr), H t = some (tol c) → Tabs0 (upd H a (.dK (k' ++ [(Sum.inr c.name, .ref t)]))) kvs (acc ++ [(n, cs ++ [c])])
  | [], _, h, _ => by
    cases h with
    | cons h1 h2 h3 h4 =>
      cases h4
      refine ⟨_, _, by rw [valV_cons, if_pos rfl], h1, h2, Ads.cons.mpr (.inl rfl), fun c t ht => ?_⟩
      refine .cons upd_same ?_ (fun _ h => nomatch h) .nil
      have e := cols_more ht h2
      exact e.upd h1 fun _ z => nomatch z
  | (m, ds) :: acc, _, h, hn => by
    cases h with
    | cons h1 h2 h3 h4 =>
      rename_i b k0 r
      rw [List.map_cons, List.mem_cons, not_or] at hn
      obtain ⟨a, k', e1, e2, e3, e4, e5⟩ := Tabs0.last (acc := acc) h4 hn.2
      have nab : b ≠ a := fun z => by
        obtain ⟨e, he1, he2⟩ := e4
        exact h3 e he1 (by rw [he2, z])
      refine ⟨a, k', by rw [valV_cons, if_neg (fun z => hn.1 (inr_inj.mp z).symm)]; exact e1, e2, e3, Ads.cons.mpr (.inr e4), fun c t ht => ?_⟩
      refine .cons (kvs := k0) ?_ ?_ h3 (e5 c t ht)
      · rw [upd_ne nab]; exact h1
      · exact h2.upd e2 fun _ z => nomatch z
/-- all locked -/
theorem frz_tabs {q : Hp → Prop} : ∀ {kvs : List (Key × V)} {ts : List Tab} {H : Hp}, Tabs0 H kvs ts → (∀ H', (∀ b, ¬ Ads kvs b → H' b = H b) → Tabs H' kvs ts → q H') → FrzN kvs.length H q
  | _, _, H, .nil, k => k H (fun _ _ => rfl) .nil
  | _, _, H, .cons (a := a) (kvs := k0) (r := r) h1 h2 h3 h4, k => by
    refine ⟨a, .dK k0, h1, trivial, fun od => ?_⟩
    have na : ¬ Ads r a := fun ⟨e, he1, he2⟩ => h3 e he1 he2
    refine frz_tabs (h4.updO h1 (fun _ z => nomatch z) na) fun H' d t => ?_
    refine k H' (fun b hb => ?_) (.cons (o := od) (kvs := k0) ?_ ?_ t)
    · rw [d b fun z => hb (Ads.cons.mpr (.inr z)), upd_ne fun z => hb (Ads.cons.mpr (.inl z))]
    · rw [d a na, upd_same]
    · refine h2.agree fun b xs e => ?_
      rw [d b, upd_ne (ne_of e h1 fun z => nomatch z)]
      · exact e
      · intro z
        obtain ⟨k', e'⟩ := h4.dk z
        rw [e] at e'
        cases e'
/-- the whole schema locked -/
theorem frz_all {q : Hp → Prop} {kvs : List (Key × V)} {ts : List Tab} {d : Addr} (hd : H d = some (.dK kvs)) (h : Tabs0 H kvs ts) (nd : ¬ Ads kvs d)
    (k : ∀ H' o, (∀ b, b ≠ d → ¬ Ads kvs b → H' b = H b) → H' d = some (.frz o (.dK kvs)) → Tabs H' kvs ts → q H') : ∃ n, FrzN n H q := by
  refine ⟨kvs.length + 1, d, .dK kvs, hd, trivial, fun od => ?_⟩
  refine frz_tabs (h.updO hd (fun _ z => nomatch z) nd) fun H' e t => ?_
  refine k H' od (fun b hb hn => ?_) ?_ t
  · rw [e b hn, upd_ne hb]
  · rw [e d nd, upd_same]
end
/-! ### one line -/
theorem addCol_last {acc : List Tab} {n : Str} {cs : List Col} {c : Col} {ts : List Tab} (h : addCol (acc ++ [(n, cs)]) c = some ts) : c.name ∉ cs.map Col.name ∧ cs.length ≠ 6 ∧ ts = acc ++ [(n, cs ++ [c])] := by
  induction acc generalizing ts with
  | nil =>
    have h : (if c.name ∈ cs.map Col.name ∨ cs.length = 6 then none else some [(n, cs ++ [c])]) = some ts := h
    split at h
    · cases h
    · rename_i q
      cases h
      exact ⟨fun z => q (.inl z), fun z => q (.inr z), rfl⟩
  | cons t acc ih =>
    have e : addCol (t :: acc ++ [(n, cs)]) c = (addCol (acc ++ [(n, cs)]) c).map (t :: ·) := by
      cases acc <;> rfl
    rw [e] at h
    obtain ⟨us, h1, rfl⟩ := Option.map_eq_some_iff.mp h
    obtain ⟨h2, h3, rfl⟩ := ih h1
    exact ⟨h2, h3, rfl⟩
theorem addCol_some {ts us : List Tab} {c : Col} (h : addCol ts c = some us) : ∃ acc n cs, ts = acc ++ [(n, cs)] := by
  rcases List.eq_nil_or_concat ts with rfl | ⟨acc, ⟨n, cs⟩, rfl⟩
  · cases h
  · exact ⟨acc, n, cs, by simp⟩
/-- the last table's name -/
def lastV (ts : List Tab) : V := match ts.getLast? with
  | none => .non
  | some t => .str t.1
theorem lastV_app {acc : List Tab} {n : Str} {cs : List Col} : lastV (acc ++ [(n, cs)]) = .str n := by
  unfold lastV
  rw [List.getLast?_append] <;> simp
end Ow

/-! Ow.S7: the class Schema; rules with the written part said; two-fold comprehensions by walks -/
namespace Ow
open PySem PySem.Spec L2
structure ScS (K : PySem.W.Frag) (mg : Str → Option Value) : Prop where
  at_ : mg "Schema" = some (.ref (He.ga K "Schema"))
  cl : Cls K (He.ga K "Schema")
  mak : ∃ f, Mk K (He.ga K "Schema") f
  text : NoAttr K (He.ga K "Schema") "text"
  found : NoAttr K (He.ga K "Schema") "found"
  tables : NoAttr K (He.ga K "Schema") "tables"
section
variable {X : Cx} {K : PySem.W.Frag}
theorem ix_tupK (hK : X.K = K := by rfl) : IxR X (rIxT K) := by subst hK; exact ix_tup
theorem ix_listK (hK : X.K = K := by rfl) : IxR X (rIxL K) := by subst hK; exact ix_list
theorem pe_fldK {e : Expr} {ta : TE} {f : Str} {pos : Pos} (he : PE X e ta) (hb : attributeBase e f X.env (eval e X.env) = eval e X.env) (hK : X.K = K := by rfl) : PE X (.Attribute e f pos) (tFld K ta f) := by
  subst hK
  exact pe_fld he hb
theorem op_in_seqK (hK : X.K = K := by rfl) : OpR X (compareOp .In) (rIn K false) := by subst hK; exact op_in_seq
theorem op_notIn_seqK (hK : X.K = K := by rfl) : OpR X (compareOp .NotIn) (rIn K true) := by subst hK; exact op_notIn_seq
theorem call_len_seqK (hK : X.K = K := by rfl) : CallR X (.builtin "len") (fun xs H Q => ∃ p ys, xs = [.ref p] ∧ (SqL K H p ys ∨ SqT K H p ys) ∧ Q (.int ys.length) H) := by subst hK; exact call_len_seq
theorem op_catTK (hK : X.K = K := by rfl) : OpR X (binaryOp .Add) (rCatT K) := by subst hK; exact op_catT
theorem call_list_ofK (hK : X.K = K := by rfl) : CallR X (.type "list") (fun xs H Q => ∃ p ys, xs = [.ref p] ∧ (SqL K H p ys ∨ SqT K H p ys) ∧ ∀ l, H l = none → Q (.ref l) (upd H l (.lst ys))) := by subst hK; exact call_list_of
theorem pi_listK {tg e : Expr} {te : TE} (he : PE X e te) (hK : X.K = K := by rfl) : PI X tg e (iList K te) := by subst hK; exact pi_list he
end
section
variable {J : It} {n : Nat} {G : Hp → Prop} {Y : Nat → Hp → V → Hp → Prop}
/-- the outer walk of two -/
theorem lc2_it (w : Walk J n G Y) {g : TG} {tt : TT} {te1 : L2.St → Hp → (Hp → Prop) → Prop} {vs : List Nat} {σ : L2.St} {H1 : Hp} {D : Addr} {Qd : Hp → Prop} (Pv : Nat → Hp → Prop) (h0 : Pv 0 (upd H1 D (.lst []))) (hG : ∀ i H, i ≤ n → Pv i H → G H)
    (hs : ∀ i x H H', i < n → Pv i H → Y i H x H' → g x (wipe σ vs) H' fun σ2 H2 => wipe σ2 vs = wipe σ vs ∧ tt σ2 H2 fun b H3 => if b = true then te1 σ2 H3 (Pv (i + 1)) else Pv (i + 1) H3) (hd : ∀ H, Pv n H → Qd H) :
    ∃ W : Nat → Nat → Hp → Prop, (∃ m, W 0 m (upd H1 D (.lst []))) ∧ ∀ i m H, W i m H →
      (J.stop i H ∧ Qd H) ∨ (J.go i H ∧ ∃ Nx : Hp → Prop, (∀ H', Nx H' → ∃ m', m' < m ∧ W (i + 1) m' H') ∧ ∀ x H', J.yld i H x H' → g x (wipe σ vs) H' fun σ2 H2 => wipe σ2 vs = wipe σ vs ∧ tt σ2 H2 fun b H3 =>
        if b = true then te1 σ2 H3 Nx else Nx H3) := by
  refine ⟨fun i m H => m = n - i ∧ i ≤ n ∧ Pv i H, ⟨n, by simp, Nat.zero_le _, h0⟩, ?_⟩
  rintro i m H ⟨rfl, hi, p⟩
  have q := hG i H hi p
  by_cases hlt : i < n
  · refine .inr ⟨w.goes i H hlt q, Pv (i + 1), fun H' p' => ⟨n - (i + 1), by omega, rfl, hlt, p'⟩, fun x H' y => hs i x H H' hlt p (w.yields i H x H' hlt q y)⟩
  · have e : i = n := by omega
    subst e
    exact .inl ⟨w.stops H q, hd H p⟩
/-- the inner one -/
theorem lc2_in (w : Walk J n G Y) {g : TG} {tt : TT} {te : TE} {vs : List Nat} {σ : L2.St} {H4 : Hp} {D : Addr} {Nx : Hp → Prop} (Pv : Nat → Hp → Prop) (h0 : Pv 0 H4) (hG : ∀ i H, i ≤ n → Pv i H → G H)
    (hs : ∀ i x H H', i < n → Pv i H → Y i H x H' → g x (wipe σ vs) H' fun σ2 H2 => wipe σ2 vs = wipe σ vs ∧ tt σ2 H2 fun b H3 =>
      if b = true then te σ2 H3 fun y H4 => ∃ acc, H4 D = some (.lst acc) ∧ acc.length < sizeLine ∧ Pv (i + 1) (upd H4 D (.lst (acc ++ [y]))) else Pv (i + 1) H3) (hd : ∀ H, Pv n H → Nx H) :
    ∃ W1 : Nat → Nat → Hp → Prop, (∃ m, W1 0 m H4) ∧ ∀ j k H, W1 j k H →
      (J.stop j H ∧ Nx H) ∨ (J.go j H ∧ ∃ Nx1 : Hp → Prop, (∀ H', Nx1 H' → ∃ k', k' < k ∧ W1 (j + 1) k' H') ∧ ∀ x H', J.yld j H x H' → g x (wipe σ vs) H' fun σ3 H5 => wipe σ3 vs = wipe σ vs ∧ tt σ3 H5 fun b H6 =>
        if b = true then te σ3 H6 fun y H7 => ∃ acc, H7 D = some (.lst acc) ∧ acc.length < sizeLine ∧ Nx1 (upd H7 D (.lst (acc ++ [y]))) else Nx1 H6) := by
  refine ⟨fun i m H => m = n - i ∧ i ≤ n ∧ Pv i H, ⟨n, by simp, Nat.zero_le _, h0⟩, ?_⟩
  rintro i m H ⟨rfl, hi, p⟩
  have q := hG i H hi p
  by_cases hlt : i < n
  · refine .inr ⟨w.goes i H hlt q, Pv (i + 1), fun H' p' => ⟨n - (i + 1), by omega, rfl, hlt, p'⟩, fun x H' y => hs i x H H' hlt p (w.yields i H x H' hlt q y)⟩
  · have e : i = n := by omega
    subst e
    exact .inl ⟨w.stops H q, hd H p⟩
end
section
variable {H H' : Hp} {x : Addr} {u : HO}
theorem Cols.but (hx : H x = some u) (h1 : ∀ xs, u ≠ .tup xs) (e : ∀ b o, b ≠ x → H b = some o → H' b = some o) : ∀ {kvs : List (Key × V)} {cs : List Col}, Cols H kvs cs → Cols H' kvs cs
  | _, _, .nil => .nil
  | _, _, .cons q1 q2 => .cons (e _ _ (ne_of q1 hx fun z => h1 _ z.symm) q1) (q2.but hx h1 e)
theorem Tabs.but (hx : H x = some u) (h1 : ∀ xs, u ≠ .tup xs) (h2 : ∀ o v, u ≠ .frz o v) (e : ∀ b o, b ≠ x → H b = some o → H' b = some o) : ∀ {kvs : List (Key × V)} {ts : List Tab}, Tabs H kvs ts → Tabs H' kvs ts
  | _, _, .nil => .nil
  | _, _, .cons q1 q2 q3 => .cons (e _ _ (ne_of q1 hx fun z => h2 _ _ z.symm) q1) (q2.but hx h1 e) (q3.but hx h1 h2 e)
end
theorem lk_text {v w z : V} : ([(("text" : Str), v), (("found" : Str), w), (("tables" : Str), z)] : List (Str × V)).lookup ("text" : Str) = some v := rfl
theorem tabAt_mem {ts : List Tab} {t : Str} {cs : List Col} (h : tabAt ts t = some cs) : (t, cs) ∈ ts := by
  unfold tabAt at h
  obtain ⟨u, h1, h2⟩ := Option.map_eq_some_iff.mp h
  have e := List.find?_some h1
  have e : u.1 = t := by simpa using e
  have m := List.mem_of_find?_eq_some h1
  rw [← e, ← h2]
  exact m
theorem colAt_mem {cs : List Col} {y : Str} {c : Col} (h : colAt cs y = some c) : c ∈ cs ∧ c.name = y := by
  unfold colAt at h
  have e := List.find?_some h
  exact ⟨List.mem_of_find?_eq_some h, by simpa using e⟩
theorem tabAt_nodup {ts : List Tab} {t : Str} {cs : List Col} (nd : (ts.map Prod.fst).Nodup) (h : (t, cs) ∈ ts) : tabAt ts t = some cs := by
  induction ts with
  | nil => cases h
  | cons u ts ih =>
    obtain ⟨n, ds⟩ := u
    rw [tabAt_cons]
    rw [List.map_cons, List.nodup_cons] at nd
    rcases List.mem_cons.mp h with e | h
    · cases e
      rw [if_pos rfl]
    · rw [if_neg]
      · exact ih nd.2 h
      · intro e
        have e : n = t := e
        subst e
        have m := List.mem_map_of_mem (f := Prod.fst) h
        exact nd.1 m
theorem colAt_nodup {cs : List Col} {c : Col} (nd : (cs.map Col.name).Nodup) (h : c ∈ cs) : colAt cs c.name = some c := by
  induction cs with
  | nil => cases h
  | cons u cs ih =>
    rw [colAt_cons]
    rw [List.map_cons, List.nodup_cons] at nd
    rcases List.mem_cons.mp h with e | h
    · rw [e, if_pos rfl]
    · rw [if_neg]
      · exact ih nd.2 h
      · intro e
        have m := List.mem_map_of_mem (f := Col.name) h
        rw [← e] at m
        exact nd.1 m
theorem Cols.get {H : Hp} : ∀ {kvs : List (Key × V)} {cs : List Col} {i : Nat} {k : Key} {v : V}, Cols H kvs cs → kvs[i]? = some (k, v) → ∃ c a, cs[i]? = some c ∧ k = Sum.inr c.name ∧ v = .ref a ∧ H a = some (tol c)
  | _, _, i, k, v, .nil, h => by simp at h
  | _, _, 0, k, v, .cons h1 h2, h => by
    simp at h
    exact ⟨_, _, rfl, h.1.symm, h.2.symm, h1⟩
  | _, _, i + 1, k, v, .cons h1 h2, h => by
    obtain ⟨c, a, e1, e2⟩ := h2.get (i := i) (k := k) (v := v) (by simpa using h)
    exact ⟨c, a, by simpa using e1, e2⟩
end Ow

/-! Ow.W1: drawn words -/
namespace Ow
open PySem PySem.Spec L2 TL
/-- the word with a number among those of a size -/
def ltr (i : Nat) : Nat := 97 + i % 26
def lets (n : Nat) : Nat → List Nat
  | 0 => []
  | k + 1 => ltr n :: lets (n / 26) k
def lettersOf (n k : Nat) : Str := ⟨(lets n k).toArray⟩
theorem lets_len (n k : Nat) : (lets n k).length = k := by
  induction k generalizing n with
  | zero => rfl
  | succ k ih => rw [lets, List.length_cons, ih]
theorem lets_succ (n k : Nat) : lets n (k + 1) = lets n k ++ [ltr (n / 26 ^ k)] := by
  induction k generalizing n with
  | zero => simp [lets]
  | succ k ih =>
    rw [lets, ih, lets, List.cons_append, Nat.div_div_eq_div_mul, Nat.pow_succ, Nat.mul_comm (26 ^ k) 26]
theorem lets_low {n k c : Nat} (h : c ∈ lets n k) : 97 ≤ c ∧ c ≤ 122 := by
  induction k generalizing n with
  | zero => cases h
  | succ k ih =>
    rcases List.mem_cons.mp h with rfl | h
    · unfold ltr
      omega
    · exact ih h
theorem let_mem {c : Nat} (h : 97 ≤ c ∧ c ≤ 122) : c ∈ LET.cps.toList := by
  have q : ∀ i : Fin 26, 97 + i.val ∈ LET.cps.toList := by decide +kernel
  have := q ⟨c - 97, by omega⟩
  have e : 97 + (c - 97) = c := by omega
  rw [← e]
  exact this
theorem letters_isW {n k : Nat} (h1 : 1 ≤ k) (h8 : k ≤ 8) : isW (lettersOf n k) = true := by
  have e : (lettersOf n k).length = k := by
    show (lets n k).toArray.size = k
    rw [List.size_toArray, lets_len]
  unfold isW
  rw [e, decide_eq_true h1, decide_eq_true h8]
  show (lets n k).all _ = true
  rw [List.all_eq_true]
  intro c hc
  exact decide_eq_true (let_mem (lets_low hc))
theorem letters_inj {a b k : Nat} (h1 : 1 ≤ k) (h : lettersOf a k = lettersOf b k) : a % 26 = b % 26 := by
  have e : lets a k = lets b k := by
    have := congrArg (fun z : Str => z.cps.toList) h
    exact this
  cases k with
  | zero => omega
  | succ k =>
    rw [lets, lets] at e
    injection e with e _
    unfold ltr at e
    omega
/-! ### pigeons -/
theorem pigeon {α : Type} [DecidableEq α] : ∀ {l m : List α}, l.Nodup → (∀ x ∈ l, x ∈ m) → l.length ≤ m.length
  | [], _, _, _ => Nat.zero_le _
  | x :: l, m, h, hm => by
    rw [List.nodup_cons] at h
    have hx := hm x (List.mem_cons_self ..)
    have ih := pigeon (l := l) (m := m.erase x) h.2 fun y hy => by
      refine (List.mem_erase_of_ne fun e => ?_).mpr (hm y (List.mem_cons_of_mem _ hy))
      subst e
      exact h.1 hy
    rw [List.length_erase_of_mem hx] at ih
    have := List.length_pos_of_mem hx
    rw [List.length_cons]
    omega
/-- among so many words one is free -/
theorem word_free {n k : Nat} {taken : List Str} (h1 : 1 ≤ k) (h : taken.length ≤ 20) (all : ∀ t, t < taken.length + 4 → lettersOf (n + t) k ∈ taken ∨ lettersOf (n + t) k ∈ BAR) : False := by
  have nd : ((List.range (taken.length + 4)).map fun t => lettersOf (n + t) k).Nodup := by
    unfold List.Nodup
    rw [List.pairwise_map]
    refine List.Pairwise.imp_of_mem ?_ (List.nodup_range (n := taken.length + 4))
    intro a b ha hb hne e
    rw [List.mem_range] at ha hb
    have := letters_inj h1 e
    exact hne (by omega)
  have := pigeon (m := taken ++ BAR) nd fun x hx => by
    obtain ⟨t, ht, rfl⟩ := List.mem_map.mp hx
    rw [List.mem_range] at ht
    rcases all t ht with z | z
    · exact List.mem_append_left _ z
    · exact List.mem_append_right _ z
  rw [List.length_map, List.length_range, List.length_append] at this
  have e : BAR.length = 3 := rfl
  omega
def spLetters : Sp := fun vs H Q _ => ∃ n k : Nat, vs = [.int (n : Int), .int (k : Int)] ∧ n < 2 ^ 100 ∧ k ≤ 8 ∧ ∀ H', Same H H' → Q (.str (lettersOf n k)) H'
def spWord (K : PySem.W.Frag) : Sp := fun vs H Q _ => ∃ (p l : Addr) (n : Nat) (tk : List Str), vs = [.ref p, .ref l] ∧ PoolAt H p n ∧ n < 2 ^ 50 ∧ SqL K (less p H) l (tk.map V.str) ∧ tk.length ≤ 20 ∧
  ∀ H' z, Keep p H H' → PoolAt H' p (n + 2) → isW z = true → z ∉ tk → z ∉ BAR → Q (.str z) H'
end Ow

/-! Ow.W2: drawn tables -/
namespace Ow
open PySem PySem.Spec L2
/-- the tuples alone: they never change -/
def tups (H : Hp) : Hp := fun a => match H a with
  | some (.tup xs) => some (.tup xs)
  | _ => none
theorem tups_at {H : Hp} {a : Addr} {xs : List V} (h : H a = some (.tup xs)) : tups H a = some (.tup xs) := by unfold tups; rw [h]
theorem tups_some {H : Hp} {a : Addr} {o : HO} (h : tups H a = some o) : ∃ xs, o = .tup xs ∧ H a = some (.tup xs) := by
  unfold tups at h
  split at h
  · rename_i xs e
    cases h
    exact ⟨xs, rfl, e⟩
  · cases h
theorem tups_of {H H' : Hp} (e : ∀ a xs, H a = some (.tup xs) → H' a = some (.tup xs)) : Same (tups H) (tups H') := fun b o h => by
  obtain ⟨xs, rfl, h2⟩ := tups_some h
  exact tups_at (e _ _ h2)
theorem tups_same {H H' : Hp} (s : Same H H') : Same (tups H) (tups H') := tups_of fun a xs h => s _ _ h
theorem tups_keep {p : Addr} {H H' : Hp} {n : Nat} (k : Keep p H H') (hp : PoolAt H p n) : Same (tups H) (tups H') := tups_of fun a xs h => by
  obtain ⟨_, _, _, e, _⟩ := hp
  exact k _ _ (ne_of h e fun z => nomatch z) h
theorem tups_lst {H : Hp} {a : Addr} {xs ys : List V} (h : H a = some (.lst xs)) : Same (tups H) (tups (upd H a (.lst ys))) := tups_of fun b zs e => by
  rw [upd_ne (ne_of e h fun z => nomatch z)]
  exact e
theorem tups_in (H : Hp) : Same (tups H) H := fun b o h => by
  obtain ⟨xs, rfl, h2⟩ := tups_some h
  exact h2
def NmOk (ns : List Str) : Prop := ns.Nodup ∧ ∀ z ∈ ns, isW z = true ∧ z ∉ BAR
theorem NmOk.app {ns : List Str} {z : Str} (h : NmOk ns) (h1 : isW z = true) (h2 : z ∉ ns) (h3 : z ∉ BAR) : NmOk (ns ++ [z]) := by
  refine ⟨List.nodup_append.mpr ⟨h.1, by simp, fun a ha b hb e => ?_⟩, fun y hy => ?_⟩
  · rw [List.mem_singleton.mp hb] at e
    exact h2 (e ▸ ha)
  · rcases List.mem_append.mp hy with z' | z'
    · exact h.2 y z'
    · rw [List.mem_singleton.mp z']
      exact ⟨h1, h3⟩
/-- columns so far -/
structure ClOk (ns : List Str) (cs : List Col) : Prop where
  nd : (cs.map Col.name).Nodup
  cols : ∀ c ∈ cs, ColOk ns c
theorem ClOk.app {ns : List Str} {cs : List Col} {c : Col} (h : ClOk ns cs) (h1 : c.name ∉ cs.map Col.name) (h2 : ColOk ns c) : ClOk ns (cs ++ [c]) := by
  refine ⟨?_, fun d hd => ?_⟩
  · rw [List.map_append]
    refine List.nodup_append.mpr ⟨h.nd, by simp, fun a ha b hb e => ?_⟩
    rw [List.map_cons, List.map_nil, List.mem_singleton] at hb
    rw [hb] at e
    exact h1 (e ▸ ha)
  · rcases List.mem_append.mp hd with z | z
    · exact h.cols d z
    · rw [List.mem_singleton.mp z]
      exact h2
def spTables (K : PySem.W.Frag) : Sp := fun vs H Q _ => ∃ (p : Addr) (n most wid : Nat), vs = [.ref p, .int (most : Int), .int (wid : Int)] ∧ PoolAt H p n ∧ n < 2 ^ 40 ∧ 1 ≤ most ∧ most ≤ 5 ∧ wid ≤ 6 ∧
  ∀ H' l ts, Keep p H H' → H l = none → PoolAt H' p (n + 1000) → Dp K (less p H') (.ref l) (dTabs ts) → TabsOk ts → (∀ t ∈ ts, t.2.length ≤ wid) → Q (.ref l) H'
end Ow

/-! Ow.W3: lines, pairs, links: lengths and promises -/
namespace Ow
open PySem PySem.Spec L2 TL
theorem len_app (x y : Str) : (x ++ y).length = x.length + y.length := by rw [len_tl, tl_append, List.length_append, ← len_tl, ← len_tl]
theorem rul_len {z : Str} (h : z ∈ RUL) : z.length ≤ 8 := by
  have q : ∀ z ∈ RUL, z.length ≤ 8 := by decide +kernel
  exact q z h
theorem ColOk.lens {ns : List Str} {c : Col} (hn : ∀ t ∈ ns, isW t = true) (h : ColOk ns c) : c.kind.length ≤ 5 ∧ c.name.length ≤ 8 ∧ (oS c.tgt).length ≤ 8 ∧ (oS c.rule).length ≤ 8 := by
  refine ⟨?_, (isW_len h.w).2, ?_⟩
  · rcases h.k with ⟨e, _⟩ | ⟨e | e, _⟩ <;> rw [e] <;> decide +kernel
  · rcases h.k with ⟨_, t, r, e1, e2, h1, h2⟩ | ⟨_, e1, e2⟩
    · rw [e1, e2]
      exact ⟨(isW_len (hn t h1)).2, rul_len h2⟩
    · rw [e1, e2]
      exact ⟨by decide +kernel, by decide +kernel⟩
theorem TabsOk.names {ts : List Tab} (h : TabsOk ts) : ∀ t ∈ ts.map Prod.fst, isW t = true := fun t ht => by
  obtain ⟨u, hu, rfl⟩ := List.mem_map.mp ht
  exact (h.tab u hu).w
theorem lines_take {ts : List Tab} {i : Nat} {t : Tab} (h : ts[i]? = some t) : linesOf (ts.take (i + 1)) = linesOf (ts.take i) ++ lnT t := by
  unfold linesOf
  rw [List.take_add_one, h, List.flatMap_append]
  simp
theorem lines_len {ts : List Tab} (h : ∀ t ∈ ts, t.2.length ≤ 6) : (linesOf ts).length ≤ 7 * ts.length := by
  induction ts with
  | nil => simp [linesOf]
  | cons u ts ih =>
    have e : linesOf (u :: ts) = lnT u ++ linesOf ts := rfl
    have e2 : (lnT u).length = u.2.length + 1 := by unfold lnT; rw [List.length_cons, List.length_map]
    rw [e, List.length_append, e2, List.length_cons]
    have h1 := ih fun v hv => h v (List.mem_cons_of_mem _ hv)
    have h3 := h u (List.mem_cons_self ..)
    omega
/-- the lines are short, and none has a line feed -/
theorem line_ok {ts : List Tab} (h : TabsOk ts) : ∀ z ∈ linesOf ts, z.length ≤ 40 ∧ 10 ∉ tl z := by
  intro z hz
  obtain ⟨t, ht, hz⟩ := List.mem_flatMap.mp hz
  have hn := h.names
  have ok := h.tab t ht
  rcases List.mem_cons.mp hz with rfl | hz
  · have l8 := (isW_len ok.w).2
    have e : (("table " : Str)).length = 6 := by decide +kernel
    refine ⟨by rw [len_app, e]; omega, fun q => ?_⟩
    rw [tl_append] at q
    rcases List.mem_append.mp q with q | q
    · exact absurd q (by decide +kernel)
    · have := isW_low ok.w 10 q
      omega
  · obtain ⟨c, hc, rfl⟩ := List.mem_map.mp hz
    have co := ok.cols c hc
    obtain ⟨l1, l2, l3, l4⟩ := co.lens hn
    have e1 : ((" " : Str)).length = 1 := by decide +kernel
    have e0 : (("" : Str)).length = 0 := by decide +kernel
    have lowK : 10 ∉ tl c.kind := by rcases co.k with ⟨e, _⟩ | ⟨e | e, _⟩ <;> rw [e] <;> decide +kernel
    have lowN : 10 ∉ tl c.name := fun q => by have := isW_low co.w 10 q; omega
    have lowS : 10 ∉ tl (" " : Str) := by decide +kernel
    unfold lnC
    split
    · rename_i ek
      rcases co.k with ⟨_, t', r, e2, e3, h4, h5⟩ | ⟨ek', _⟩
      · refine ⟨by simp only [len_app, e1]; omega, fun q => ?_⟩
        simp only [tl_append, List.mem_append] at q
        rw [e2, e3] at q
        rcases q with ((q | q) | q) | (((q | q) | q) | q)
        · exact lowK q
        · exact lowS q
        · exact lowN q
        · exact lowS q
        · have := isW_low (hn t' h4) 10 q
          omega
        · exact lowS q
        · have := low_rul h5 10 q
          omega
      · rcases ek' with z | z <;> rw [z] at ek <;> exact absurd ek (by decide)
    · refine ⟨by simp only [len_app, e1, e0]; omega, fun q => ?_⟩
      simp only [tl_append, List.mem_append] at q
      rcases q with ((q | q) | q) | q
      · exact lowK q
      · exact lowS q
      · exact lowN q
      · exact absurd q (by decide +kernel)
theorem lines_ne {ts : List Tab} (h : TabsOk ts) : linesOf ts ≠ [] := by
  have p := h.pos
  cases ts with
  | nil => simp at p
  | cons t ts => exact fun z => nomatch z
/-- the text's lines -/
theorem text_lines {ts : List Tab} (h : TabsOk ts) : linesIn (Txt.join ("\n" : Str) (linesOf ts)) = linesOf ts :=
  TL.split_join (s := 10) (S := []) (by decide +kernel) (by decide +kernel) (lines_ne h) fun p hp => (line_ok h p hp).2
theorem sum_le {l : List Str} {m : Nat} (h : ∀ z ∈ l, z.length ≤ m) : (l.map (·.length)).sum ≤ l.length * m := by
  induction l with
  | nil => simp
  | cons z l ih =>
    rw [List.map_cons, List.sum_cons, List.length_cons, Nat.add_mul, Nat.one_mul]
    have h1 := h z (List.mem_cons_self ..)
    have h2 := ih fun y hy => h y (List.mem_cons_of_mem _ hy)
    omega
theorem join_len2 (y : Str) : ∀ l : List Str, (Str.join y l).length ≤ (l.map (·.length)).sum + l.length * y.length
  | [] => Nat.zero_le _
  | [x] => by simp [Str.join]
  | x :: z :: r => by
    have ih := join_len2 y (z :: r)
    show (x ++ y ++ Str.join y (z :: r)).length ≤ _
    rw [len_app, len_app, List.map_cons, List.sum_cons, List.length_cons, Nat.add_mul, Nat.one_mul]
    omega
theorem text_len {ts : List Tab} (h : TabsOk ts) : (Txt.join ("\n" : Str) (linesOf ts)).length ≤ 2000 := by
  rw [TL.join_eq]
  have h1 := sum_le fun z hz => (line_ok h z hz).1
  have h2 := lines_len fun t ht => (h.tab t ht).few
  have h3 := join_len2 ("\n" : Str) (linesOf ts)
  have h4 : (("\n" : Str)).length = 1 := by decide +kernel
  have h5 := h.few
  rw [h4] at h3
  omega
/-- a schema of good tables is read -/
theorem text_read {ts : List Tab} (h : TabsOk ts) : Short (linesIn (Txt.join ("\n" : Str) (linesOf ts))) ∧ readT (named (linesIn (Txt.join ("\n" : Str) (linesOf ts)))) (linesIn (Txt.join ("\n" : Str) (linesOf ts))) [] 0 = .ok ts := by
  rw [text_lines h]
  have h2 := lines_len fun t ht => (h.tab t ht).few
  have h5 := h.few
  exact ⟨⟨by omega, fun z hz => Nat.le_trans (line_ok h z hz).1 (by decide)⟩, read_lines h⟩
def pairsOf (ts : List Tab) : List (Str × Str) := ts.flatMap fun u => u.2.map fun c => (u.1, c.name)
def spLines (K : PySem.W.Frag) : Sp := fun vs H Q _ => ∃ (l : Addr) (ts : List Tab), vs = [.ref l] ∧ Dp K H (.ref l) (dTabs ts) ∧ TabsOk ts ∧ ∀ H' q, Same H H' → H q = none → H' q = some (.lst ((linesOf ts).map V.str)) → Q (.ref q) H'
def spPairs (K : PySem.W.Frag) : Sp := fun vs H Q _ => ∃ (l : Addr) (ts : List Tab), vs = [.ref l] ∧ Dp K H (.ref l) (dTabs ts) ∧ TabsOk ts ∧ ∀ H' q xs, Same H H' → H q = none → H' q = some (.lst xs) → DpAll K (tups H') xs ((pairsOf ts).map dPr) → Q (.ref q) H'
def spLks (K : PySem.W.Frag) : Sp := fun vs H Q _ => ∃ (l : Addr) (t : Str) (ts : List Tab), vs = [.ref l, .str t] ∧ Dp K H (.ref l) (dTabs ts) ∧ TabsOk ts ∧ ∀ H' q xs, Same H H' → H q = none → H' q = some (.lst xs) → DpAll K (tups H') xs ((linksTo ts t).map dPr) → Q (.ref q) H'
end Ow

/-! Ow.S8: len(o), x in o, o == x, o != x, str(o) by a class's own methods -/
namespace Ow
open PySem PySem.Spec PyProof.Rows L2
section
variable {X : Cx} {cls m : Str} {ps : List Str} {k : Nat} {sp : Sp}
/-- a method run somewhere below the body -/
theorem dun_run {pins : List (Addr × Obj)} {σ : L2.St} {H : Hp} {s : Shared} {A : Around} {f : Addr} {fd : FuncData} {us : List Value} {vs : List V} {Q : VK} (F : FnOk X.prog X.w X.K X.mg X.base CX0 k f fd ps sp) (hb : Binds X.K fd ps [])
    (hr : Room k A) (fr : A.frames = X.A.frames) (I : Inv X pins σ H s) (r : Vals vs us) (h : sp vs H Q E0) :
    wpAny (model X.prog X.w) A (call (.ref f) us) (fun u s' => ∃ v H', Inv X pins σ H' s' ∧ RelV v u ∧ Q v H') X.xe s := by
  have e0 : Env0 X.prog X.w X.K X.mg X.base A X.stack s H := by
    have e := I.env0
    exact ⟨by rw [fr]; exact e.frames, e.mod, e.bs, e.bsz, e.funs, e.frf, e.hok, e.bare⟩
  have hl := F.len _ _ _ _ h
  have hl2 : us.length = ps.length := by rw [← r.length]; exact hl
  refine wpAny_call (codeAny_mono (F.run A X.stack s H ⟨us, []⟩ us vs _ E0 hr e0 (by
    have := hb s us I.kIn (by simpa using hl2)
    simpa using this) r h) fun r s' hq => ?_)
  cases r with
  | error e => exact False.elim hq
  | ok fl =>
    cases fl with
    | ret w =>
      obtain ⟨z, H', I', rz, ez⟩ := I.after hq
      exact ⟨z, H', I', rz, ez⟩
    | next => exact False.elim hq
    | brk => exact False.elim hq
    | cont => exact False.elim hq
/-- len(o) -/
def rLenO (C : Addr) (sp : Sp) : List V → Hp → VK → Prop := fun xs H Q => ∃ (a dx : Addr) (fs : List (Str × V)), xs = [.ref a] ∧ H a = some (.ins C dx fs) ∧ sp [.ref a] H (fun v H' => ∃ n : Nat, v = .int (n : Int) ∧ n < 2 ^ 63 ∧ Q (.int (n : Int)) H') E0
theorem call_lenO (F : MtAt X.prog X.w X.K X.mg X.base cls "__len__" ps k sp) (hr : Room (k + 1) X.A) : CallR X (.builtin "len") (rLenO (He.ga X.K cls) sp) := by
  intro pins s σ H xs us Q I r h
  obtain ⟨a, dx, fs, rfl, ha, hsp⟩ := h
  obtain ⟨f, fd, hm, hb, hF⟩ := F
  obtain ⟨u, rfl, rx⟩ := vals1 r
  cases rx
  obtain ⟨mA, J, _⟩ := ins_get I.hok ha
  obtain ⟨od, J, _⟩ := J.look
  obtain ⟨m', hFr⟩ := I.fr
  refine PySem.W.len_K hFr I.ok.mod.kin J hm.at_ hm.fn ?_
  refine wpAny_mono (dun_run (A := X.A.in1) hF hb hr.in1 rfl I (vs := [.ref a]) (.cons rfl .nil) hsp) (fun u s' q => ?_) fun _ _ z => z
  obtain ⟨v, H', I', rv, n, rfl, hn, q⟩ := q
  obtain ⟨t, rfl⟩ := rv
  exact ⟨⟨by omega, by omega⟩, .int (n : Int), H', I'.tok _, ⟨_, rfl⟩, q⟩
/-- x in o -/
def rInO (C : Addr) (sp : Sp) : R2 := fun x y H Q => ∃ (a dx : Addr) (fs : List (Str × V)), y = .ref a ∧ H a = some (.ins C dx fs) ∧ sp [.ref a, x] H (fun v H' => ∃ b, v = .bl b ∧ Q (.bl b) H') E0
theorem op_inO (F : MtAt X.prog X.w X.K X.mg X.base cls "__contains__" ps k sp) (hr : Room k X.A) : OpR X (compareOp .In) (rInO (He.ga X.K cls) sp) := by
  intro pins s σ H x y v u Q I rx ry h
  obtain ⟨a, dx, fs, rfl, ha, hsp⟩ := h
  obtain ⟨f, fd, hm, hb, hF⟩ := F
  cases ry
  obtain ⟨mA, J, _⟩ := ins_get I.hok ha
  obtain ⟨od, J, _⟩ := J.look
  obtain ⟨m', hFr⟩ := I.fr
  refine PySem.W.in_K hFr I.ok.mod.kin J hm.at_ hm.fn ?_
  refine wpAny_mono (dun_run (A := X.A) hF hb hr rfl I (vs := [.ref a, x]) (.cons rfl (.cons rx .nil)) hsp) (fun u s' q => ?_) fun _ _ z => z
  obtain ⟨v, H', I', rv, b, rfl, q⟩ := q
  cases rv
  exact wpAny_truthy_bool ⟨.bl b, H', I', rfl, q⟩
/-- o == x -/
def rEqO (K : PySem.W.Frag) (C : Addr) (sp : Sp) : R2 := fun x y H Q => ∃ (a dx : Addr) (fs : List (Str × V)) (t : Value), x = .ref a ∧ H a = some (.ins C dx fs) ∧ TyX K H y t ∧ PySem.W.notFirst K C t = true ∧ sp [.ref a, y] H (fun v H' => ∃ b, v = .bl b ∧ Q (.bl b) H') E0
theorem op_eqO (F : MtAt X.prog X.w X.K X.mg X.base cls "__eq__" ps k sp) (hr : Room k X.A) : OpR X (compareOp .Eq) (rEqO X.K (He.ga X.K cls) sp) := by
  intro pins s σ H x y v u Q I rx ry h
  obtain ⟨a, dx, fs, t, rfl, ha, ty, hnf, hsp⟩ := h
  obtain ⟨f, fd, hm, hb, hF⟩ := F
  cases rx
  obtain ⟨mA, J, _⟩ := ins_get I.hok ha
  obtain ⟨od, J, _⟩ := J.look
  obtain ⟨m', hFr⟩ := I.fr
  obtain ⟨P, Z, p, _⟩ := kit_of I ry ty
  show wpAny (model X.prog X.w) X.A (richCompare .Eq (.ref a) u) (EP X pins σ Q) X.xe s
  refine PySem.W.cmp_K (op := .Eq) (tb := t) hr.units0 hFr I.ok.mod.kin J (Z.ty _ _ I.kIn p) hnf hm.at_ hm.fn ?_
  refine wpAny_mono (dun_run (A := X.A) hF hb hr rfl I (vs := [.ref a, y]) (.cons rfl (.cons ry .nil)) hsp) (fun u s' q => ?_) fun _ _ z => z
  obtain ⟨v, H', I', rv, b, rfl, q⟩ := q
  cases rv
  exact ⟨.bl b, H', I', rfl, q⟩
/-- o != x, where the class has no __ne__ of its own -/
def NeB (K : PySem.W.Frag) (C : Addr) : Prop := PySem.W.findIn K (.ref C) "__ne__" = some (some (.builtin "object.__ne__")) ∧ PySem.W.subIn K (.ref C) (.type "object") = some true
theorem objNe_own {A : Around} {E : Value → Shared → Prop} {s : Shared} {K : PySem.W.Frag} {x C f : Addr} {ox : Obj} {od : Option Obj} {b : Value} {Q : Fin → Shared → Prop} (XK : K.In s.heap) (I : PySem.W.InstAt s.heap x ox C od) (hs : PySem.W.findIn K (.ref C) "__eq__" = some (some (.ref f))) (hf : PySem.W.isFn K (.ref f) = true) (hu : A.units < cLine)
    (hcall : wpAny (model X.prog X.w) A (call (.ref f) [.ref x, b]) (fun v s' => ∃ r, v = .bool r ∧ Q (.done (.ret (.bool (!r)))) s') E s) :
    wpAny (model X.prog X.w) A (Builtin.«object.__ne__» ⟨[.ref x, b], []⟩) Q E s := by
  unfold Builtin.«object.__ne__»
  repeat (first
    | with_reducible refine wpAny_cRoomFor hu ?_
    | (refine wpAny_bind (m := callSpecialIfBound? (.ref x) (Str.ofString "__eq__") [b])
        (PySem.W.ifBound_K XK I hs hf (wpAny_mono hcall (fun r s' hr => by
          obtain ⟨b, rfl, hq⟩ := hr
          repeat (first | exact hq | exact wpAny_pure hq | exact wpAny_truthy_bool hq | (refine wpAny_bind (m := truthy (.bool _)) (wpAny_truthy_bool ?_)) | wp_step)) fun _ _ e => e)))
    | wp_step)
theorem ifBound_slot {M : Model} {A : Around} {E : Value → Shared → Prop} {s : Shared} {K : PySem.W.Frag} {x C : Addr} {ox : Obj} {od : Option Obj} {B : String} {name : Str} {id : String} {args : List Value} {Q : Option Value → Shared → Prop} (XK : K.In s.heap) (I : PySem.W.InstAt s.heap x ox C od) (hs : PySem.W.findIn K (.ref C) name = some (some (.builtin id))) (S : Slot B name id)
    (h : wpAny M A (call (.builtin id) (.ref x :: args)) (fun v => Q (some v)) E s) : wpAny M A (callSpecialIfBound? (.ref x) name args) Q E s := by
  simp only [callSpecialIfBound?, bindSpecialIfBound?]
  refine wpAny_holding (wpAny_bind (wpAny_bind (wpAny_bind (I.type.here ((PySem.W.looks_findIn XK hs).here ?_)))))
  simp only [S.bind]
  refine wpAny_bind (wpAny_askSetting (wpAny_ite ?_))
  have fin : wpAny M A (call (.builtin id) ([.ref x] ++ args) >>= fun v => pure (some v)) Q E s := wpAny_bind (wpAny_mono h (fun v s' h' => wpAny_pure h') fun _ _ h' => h')
  split
  · exact wpAny_bind (wpAny_pure (wpAny_pure fin))
  · exact wpAny_tryCatch (wpAny_bind (wpAny_pure (wpAny_pure fin)))
theorem check_slotK {M : Model} {A : Around} {E : Value → Shared → Prop} {s : Shared} {K : PySem.W.Frag} {x C : Addr} {ox : Obj} {od : Option Obj} {id owner n : String} {rest : List Value} {Q : Unit → Shared → Prop} (hk : builtinKind id = some .slot) (hs : splitId id = some (owner, n))
    (ha : argsOk id ⟨.ref x :: rest, []⟩) (XK : K.In s.heap) (I : PySem.W.InstAt s.heap x ox C od) (hsub : PySem.W.subIn K (.ref C) (.type owner) = some true) (hq : Q () s) :
    wpAny M A (checkBuiltinCall id ⟨.ref x :: rest, []⟩) Q E s := by
  simp only [checkBuiltinCall, hk, hs]
  refine wpAny_bind ?_
  unfold isInstance
  refine wpAny_bind (I.type.here ((PySem.W.looks_subIn XK hsub).here ?_))
  simp only [if_true, Bool.not_true, Bool.false_eq_true, if_false]
  cases hsig : Manifest.signature? id with
  | none => first | exact wpAny_pure hq | exact hq
  | some sig =>
    simp only [argsOk, hsig] at ha
    first
      | exact wpAny_of_eq ha hq
      | (simp only [ha]; exact wpAny_pure hq)
      | exact ha _ _ _ hq
/-- o != x of two instances of one class -/
def rNeO (C : Addr) (sp : Sp) : R2 := fun x y H Q => ∃ (a b dx dy : Addr) (fs gs : List (Str × V)), x = .ref a ∧ y = .ref b ∧ H a = some (.ins C dx fs) ∧ H b = some (.ins C dy gs) ∧ sp [.ref a, .ref b] H (fun v H' => ∃ r, v = .bl r ∧ Q (.bl (!r)) H') E0
theorem op_neO (F : MtAt X.prog X.w X.K X.mg X.base cls "__eq__" ps k sp) (N : NeB X.K (He.ga X.K cls)) (hr : Room (k + 1) X.A) : OpR X (compareOp .NotEq) (rNeO (He.ga X.K cls) sp) := by
  intro pins s σ H x y v u Q I rx ry h
  obtain ⟨a, b, dx, dy, fs, gs, rfl, rfl, ha, hb', hsp⟩ := h
  obtain ⟨f, fd, hm, hb, hF⟩ := F
  cases rx
  cases ry
  obtain ⟨mA, J, _⟩ := ins_get I.hok ha
  obtain ⟨od, J, _⟩ := J.look
  obtain ⟨mB, J', _⟩ := ins_get I.hok hb'
  obtain ⟨od', J', _⟩ := J'.look
  show wpAny (model X.prog X.w) X.A (richCompare .NotEq (.ref a) (.ref b)) (EP X pins σ Q) X.xe s
  have one : wpAny (model X.prog X.w) X.A (tryCompare (.ref a) "__ne__" (.ref b)) (fun r s' => ∃ v, r = some v ∧ EP X pins σ Q v s') X.xe s := by
    simp only [tryCompare]
    refine wpAny_bind (ifBound_slot I.kIn J N.1 F.cmp_object.ne (wpAny_call (codeAny_call_builtin F.cmp_object.ne.plain F.cmpEntry_ne
      (check_slotK F.cmpKind_ne F.cmpSplit_ne (F.cmpArgs_ne _ _) I.kIn J N.2
        (objNe_own (A := X.A.in1) I.kIn J hm.at_ hm.fn hr.in1.units0 (wpAny_mono (dun_run (A := X.A.in1) hF hb hr.in1 rfl I (vs := [.ref a, .ref b]) (.cons rfl (.cons rfl .nil)) hsp) (fun u s' q => ?_) fun _ _ z => z))))))
    obtain ⟨v, H', I', rv, r, rfl, q⟩ := q
    cases rv
    refine ⟨r, rfl, ?_⟩
    first
      | exact wpAny_pure ⟨_, rfl, .bl (!r), H', I', rfl, q⟩
      | exact wpAny_pure (wpAny_pure ⟨_, rfl, .bl (!r), H', I', rfl, q⟩)
      | exact ⟨_, rfl, .bl (!r), H', I', rfl, q⟩
  unfold richCompare
  simp only [oneThing_ref]
  refine wpAny_holding (wpAny_bind (wpAny_cRoomFor hr.units0 ?_))
  rw [cmpInfo_NotEq]
  dsimp only
  refine wpAny_bind (J.type.here (wpAny_bind (J'.type.here ?_)))
  rw [show (Value.ref (He.ga X.K cls) != Value.ref (He.ga X.K cls)) = false from by simp]
  simp only [Bool.false_eq_true, if_false]
  refine wpAny_bind (wpAny_pure ?_)
  simp only [Bool.false_eq_true, if_false]
  refine wpAny_bind (wpAny_mono one (fun r s' z => ?_) fun _ _ e => e)
  obtain ⟨v, rfl, hq⟩ := z
  exact wpAny_pure hq
/-- str(o) -/
def rStrO (C : Addr) (sp : Sp) : List V → Hp → VK → Prop := fun xs H Q => ∃ (a dx : Addr) (fs : List (Str × V)), xs = [.ref a] ∧ H a = some (.ins C dx fs) ∧ sp [.ref a] H (fun v H' => ∃ z, v = .str z ∧ Q (.str z) H') E0
theorem call_strO (F : MtAt X.prog X.w X.K X.mg X.base cls "__str__" ps k sp) (hr : Room (k + 2) X.A) : CallR X (.type "str") (rStrO (He.ga X.K cls) sp) := by
  intro pins s σ H xs us Q I r h
  obtain ⟨a, dx, fs, rfl, ha, hsp⟩ := h
  obtain ⟨f, fd, hm, hb, hF⟩ := F
  obtain ⟨u, rfl, rx⟩ := vals1 r
  cases rx
  obtain ⟨mA, J, _⟩ := ins_get I.hok ha
  obtain ⟨od, J, _⟩ := J.look
  refine PySem.W.kso_call hr.in1.in1.units0 I.kIn J hm.at_ hm.fn ?_
  refine wpAny_mono (dun_run (A := X.A.in1.in1) hF hb hr.in1.in1 rfl I (vs := [.ref a]) (.cons rfl .nil) hsp) (fun u s' q => ?_) fun _ _ z => z
  obtain ⟨v, H', I', rv, z, rfl, q⟩ := q
  obtain ⟨t, rfl⟩ := rv
  exact ⟨.str z, H', I', ⟨t, rfl⟩, q⟩
end
end Ow

/-! Ow.S9: data of a shape; in of tuples at any depth; promises of a Schema's own methods -/
namespace Ow
open PySem PySem.Spec PyProof.Rows L2 TL
/-- texts of signs, nested at most n deep -/
inductive Shp : Nat → PyData → Prop
  | non {n : Nat} : Shp n .none
  | bl {n : Nat} (b : Bool) : Shp n (.bool b)
  | int {n : Nat} (i : Int) : Shp n (.int i)
  | str {n : Nat} {z : Str} : PyData.strOk z = true → Shp n (.str z)
  | lst {n : Nat} {ds : List PyData} : (∀ d ∈ ds, Shp n d) → Shp (n + 1) (.list ds)
  | tup {n : Nat} {ds : List PyData} : (∀ d ∈ ds, Shp n d) → Shp (n + 1) (.tuple ds)
theorem lay_all : ∀ {ds : List PyData}, (∀ d ∈ ds, d.canLay0 = true) → PyData.canLayAll0 ds = true
  | [], _ => rfl
  | d :: ds, h => by
    unfold PyData.canLayAll0
    rw [h d (List.mem_cons_self ..), lay_all fun e he => h e (List.mem_cons_of_mem _ he)]
    rfl
theorem depth_all {n : Nat} : ∀ {ds : List PyData}, (∀ d ∈ ds, d.depth ≤ n) → PyData.depthAll ds ≤ n
  | [], _ => by simp [PyData.depthAll]
  | d :: ds, h => by
    have h1 := h d (List.mem_cons_self ..)
    have h2 := depth_all (n := n) fun e he => h e (List.mem_cons_of_mem _ he)
    simp only [PyData.depthAll]
    omega
theorem Shp.ok : ∀ {n : Nat} {d : PyData}, Shp n d → d.canLay0 = true ∧ d.depth ≤ n + 1 := by
  intro n d h
  induction h with
  | non => exact ⟨rfl, by simp [PyData.depth]⟩
  | bl b => exact ⟨rfl, by simp [PyData.depth]⟩
  | int i => exact ⟨rfl, by simp [PyData.depth]⟩
  | str h => exact ⟨h, by simp [PyData.depth]⟩
  | lst h ih =>
    refine ⟨by unfold PyData.canLay0; exact lay_all fun d hd => (ih d hd).1, ?_⟩
    have := depth_all fun d hd => (ih d hd).2
    simp only [PyData.depth]
    omega
  | tup h ih =>
    refine ⟨by unfold PyData.canLay0; exact lay_all fun d hd => (ih d hd).1, ?_⟩
    have := depth_all fun d hd => (ih d hd).2
    simp only [PyData.depth]
    omega
theorem Shp.shaped {n : Nat} {d : PyData} (h : Shp n d) (hn : n ≤ 60) : SeqAt.shaped d = true := by
  obtain ⟨h1, h2⟩ := h.ok
  unfold SeqAt.shaped
  rw [h1, decide_eq_true (by omega)]
  rfl
theorem strOk_low {z : Str} (h : ∀ c ∈ tl z, c < 0x110000) : PyData.strOk z = true := by
  unfold PyData.strOk
  rw [← Array.all_toList, List.all_eq_true]
  intro c hc
  exact decide_eq_true (h c hc)
theorem strOk_word {z : Str} (h : isW z = true) : PyData.strOk z = true := strOk_low fun c hc => by
  have := isW_low h c hc
  omega
theorem shp_strs {n : Nat} {zs : List Str} (h : ∀ z ∈ zs, PyData.strOk z = true) : ∀ d ∈ zs.map PyData.str, Shp n d := fun d hd => by
  obtain ⟨z, hz, rfl⟩ := List.mem_map.mp hd
  exact .str (h z hz)
/-! ### in, of lists and tuples -/
section
variable {X : Cx}
def rInDS (K : PySem.W.Frag) : R2 := fun x y H Q => ∃ d ds, Dp K H x d ∧ (Dp K H y (.list ds) ∨ Dp K H y (.tuple ds)) ∧ SeqAt.shaped d = true ∧ SeqAt.shaped (.list ds) = true ∧ Q (.bl (ds.any fun z => PyData.eqv z d)) H
theorem op_inDS (hu : X.A.units + 65 < cLine) : OpR X (compareOp .In) (rInDS X.K) := by
  intro pins s σ H x y v u Q I rx ry h
  obtain ⟨d, ds, hd, he, sd, se, q⟩ := h
  obtain ⟨as, r1⟩ := Dp.reads I d x v hd rx
  rcases he with he | he
  · obtain ⟨bs, r2⟩ := Dp.reads I (.list ds) y u he ry
    exact SeqAt.in_list_reads r2 r1 (SeqAt.canLay_of_shaped se) (SeqAt.canLay_of_shaped sd) (room_in_shaped sd hu) ⟨.bl _, H, I, rfl, q⟩
  · obtain ⟨bs, r2⟩ := Dp.reads I (.tuple ds) y u he ry
    exact SeqAt.in_tuple_reads r2 r1 (SeqAt.canLay_of_shaped se) (SeqAt.canLay_of_shaped sd) (room_in_shaped sd hu) ⟨.bl _, H, I, rfl, q⟩
end
/-! ### facts for isinstance, == -/
structure ScI (K : PySem.W.Frag) : Prop where
  ins : ∀ {H : Hp} {a dx : Addr} {fs : List (Str × V)}, H a = some (.ins (He.ga K "Schema") dx fs) → TyX K H (.ref a) (.ref (He.ga K "Schema"))
  own : PySem.W.kitOne K (.ref (He.ga K "Schema")) (.ref (He.ga K "Schema")) = some true
  oth : ∀ T ∈ ["NoneType", "str", "int", "tuple"], PySem.W.kitOne K (.type T) (.ref (He.ga K "Schema")) = some false ∧ PySem.W.notFirst K (He.ga K "Schema") (.type T) = true
  ne : NeB K (He.ga K "Schema")
/-! ### promises -/
def spLenS (K : PySem.W.Frag) : Sp := fun vs H Q _ => ∃ (x : Addr) (z : Str) (ts : List Tab), vs = [.ref x] ∧ SchAt K H x z ts ∧ Q (.int (ts.length : Nat)) H
def spStrS (K : PySem.W.Frag) : Sp := fun vs H Q _ => ∃ (x : Addr) (z : Str) (ts : List Tab), vs = [.ref x] ∧ SchAt K H x z ts ∧ Q (.str z) H
def spEqS (K : PySem.W.Frag) : Sp := fun vs H Q _ => ∃ (x : Addr) (z : Str) (ts : List Tab) (y : V), vs = [.ref x, y] ∧ SchAt K H x z ts ∧
  ((∃ x' z' ts', y = .ref x' ∧ SchAt K H x' z' ts' ∧ Q (.bl (decide (V.str z = V.str z'))) H) ∨ ((∃ T ∈ ["NoneType", "str", "int", "tuple"], TyX K H y (.type T)) ∧ Q (.bl false) H))
/-- whether a thing is in a schema -/
def inSch (ts : List Tab) : PyData → Bool
  | .str z => decide (z ∈ ts.map Prod.fst)
  | .tuple [.str a, .str b] => decide ((a, b) ∈ pairsOf ts)
  | _ => false
/-- the things that are asked: flat ones, lists and tuples of texts and None -/
inductive Thg : PyData → Prop
  | non : Thg .none
  | bl (b : Bool) : Thg (.bool b)
  | int (i : Int) : Thg (.int i)
  | str {z : Str} : PyData.strOk z = true → Thg (.str z)
  | lst {os : List (Option Str)} : (∀ z, some z ∈ os → PyData.strOk z = true) → Thg (.list (os.map oD))
  | tup {os : List (Option Str)} : (∀ z, some z ∈ os → PyData.strOk z = true) → Thg (.tuple (os.map oD))
def spInS (K : PySem.W.Frag) : Sp := fun vs H Q _ => ∃ (x : Addr) (z : Str) (ts : List Tab) (v : V) (d : PyData), vs = [.ref x, v] ∧ SchAt K H x z ts ∧ TabsOk ts ∧ Dp K H v d ∧ Thg d ∧ ∀ H', Same H H' → Q (.bl (inSch ts d)) H'
end Ow

/-! Ow.B1: comprehensions over data; new objects -/
namespace Ow
open PySem PySem.Spec PyProof.Rows L2
section
variable {K : PySem.W.Frag}
/-- where a comprehension stands behind i turns: its list, as data -/
structure LcP (K : PySem.W.Frag) {α : Type} (H1 : Hp) (D : Addr) (l : List α) (g : α → Option PyData) (i : Nat) (H : Hp) : Prop where
  same : Same H1 H
  ex : ∃ ys, H D = some (.lst ys) ∧ DpAll K (less D H) ys ((l.take i).filterMap g) ∧ ys.length ≤ i
section
variable {α : Type} {H1 : Hp} {D : Addr} {l : List α} {g : α → Option PyData} {i : Nat} {H : Hp}
theorem LcP.step {x : α} {H4 : Hp} {y : V} {d : PyData} (P : LcP K H1 D l g i H) (hl : l.length ≤ 100000) (s : Same H H4) (hx : l[i]? = some x) (hg : g x = some d) (hd : Dp K (less D H4) y d) (hD : H1 D = none) :
    ∃ acc, H4 D = some (.lst acc) ∧ acc.length < sizeLine ∧ LcP K H1 D l g (i + 1) (upd H4 D (.lst (acc ++ [y]))) := by
  obtain ⟨s1, ys, h1, h2, h3⟩ := P
  have hi : i < l.length := (List.getElem?_eq_some_iff.mp hx).1
  have e : ∀ o, Same (less D H4) (less D (upd H4 D o)) := fun o => less_keep keep_upd
  refine ⟨ys, s _ _ h1, by rw [sizeLine_eq]; omega, ?_, _, upd_same, ?_, by rw [List.length_append]; simp; omega⟩
  · exact fun b o q => by rw [upd_ne (ne_of_none q hD)]; exact s _ _ (s1 _ _ q)
  · rw [List.take_add_one, hx, List.filterMap_append]
    refine DpAll.app (DpAll.same ((less_mono s).trans (e _)) _ _ h2) ?_
    have e2 : List.filterMap g (some x).toList = [d] := by simp [hg]
    rw [e2]
    exact .cons (Dp.same (e _) _ _ hd) .nil
theorem LcP.skip {x : α} {H4 : Hp} (P : LcP K H1 D l g i H) (s : Same H H4) (hx : l[i]? = some x) (hg : g x = none) : LcP K H1 D l g (i + 1) H4 := by
  obtain ⟨s1, ys, h1, h2, h3⟩ := P
  refine ⟨s1.trans s, ys, s _ _ h1, ?_, by omega⟩
  rw [List.take_add_one, hx, List.filterMap_append]
  have e2 : List.filterMap g (some x).toList = [] := by simp [hg]
  rw [e2, List.append_nil]
  exact DpAll.same (less_mono s) _ _ h2
theorem LcP.ne {q : Addr} (P : LcP K H1 D l g i H) (h : H q = none) : q ≠ D := by
  obtain ⟨_, ys, h1, _⟩ := P
  exact (ne_of_none h1 h).symm
/-- what stood ahead is not the new list -/
theorem Dp.off {v : V} {d : PyData} {H' : Hp} (h : Dp K H1 v d) (hD : H1 D = none) (s : Same H1 H') : Dp K (less D H') v d :=
  Dp.same (fun b o e => by rw [less_ne (ne_of_none e hD)]; exact s _ _ e) _ _ h
theorem DpAll.off {v : List V} {d : List PyData} {H' : Hp} (h : DpAll K H1 v d) (hD : H1 D = none) (s : Same H1 H') : DpAll K (less D H') v d :=
  DpAll.same (fun b o e => by rw [less_ne (ne_of_none e hD)]; exact s _ _ e) _ _ h
end
theorem lc_dat {α : Type} {f : α → PyData} {l : List α} {a : Addr} {xs : List V} {tg : TG} {tt : TT} {te : TE} {vs : List Nat} {σ : L2.St} {H1 : Hp} {D : Addr} {Qd : Hp → Prop} (g : α → Option PyData)
    (hD : H1 D = none) (hS : SqL K H1 a xs) (hx : DpAll K H1 xs (l.map f))
    (hs : ∀ i v x H, xs[i]? = some v → l[i]? = some x → Dp K H v (f x) → LcP K H1 D l g i H → tg v (wipe σ vs) H fun σ2 H2 => wipe σ2 vs = wipe σ vs ∧ tt σ2 H2 fun b H3 =>
      if b = true then te σ2 H3 fun y H4 => ∃ acc, H4 D = some (.lst acc) ∧ acc.length < sizeLine ∧ LcP K H1 D l g (i + 1) (upd H4 D (.lst (acc ++ [y]))) else LcP K H1 D l g (i + 1) H3)
    (hd : ∀ H ys, Same H1 H → H D = some (.lst ys) → DpAll K (less D H) ys (l.filterMap g) → Qd H) :
    ∃ W : Nat → Nat → Hp → Prop, (∃ m, W 0 m (upd H1 D (.lst []))) ∧ ∀ i m H, W i m H →
      ((Itl K a).stop i H ∧ Qd H) ∨ ((Itl K a).go i H ∧ ∃ Nx : Hp → Prop, (∀ H', Nx H' → ∃ m', m' < m ∧ W (i + 1) m' H') ∧ ∀ x H', (Itl K a).yld i H x H' → tg x (wipe σ vs) H' fun σ2 H2 => wipe σ2 vs = wipe σ vs ∧ tt σ2 H2 fun b H3 =>
        if b = true then te σ2 H3 fun y H4 => ∃ acc, H4 D = some (.lst acc) ∧ acc.length < sizeLine ∧ Nx (upd H4 D (.lst (acc ++ [y]))) else Nx H3) := by
  have hxl := DpAll.len hx
  rw [List.length_map] at hxl
  refine lc_list (K := K) (a := a) (xs := xs) (LcP K H1 D l g) ⟨same_upd hD, [], upd_same, by simpa using DpAll.nil, Nat.le_refl _⟩ (fun i H _ P => P.same.seq hS) (fun i v H hv P => ?_) (fun H P => ?_)
  · obtain ⟨x, h1, h2⟩ := dp_at hx hv
    exact hs i v x H hv h1 (Dp.same P.same _ _ h2) P
  · obtain ⟨s1, ys, h1, h2, h3⟩ := P
    rw [hxl, List.take_length] at h2
    exact hd H ys s1 h1 h2
/-- over a tuple -/
theorem lc_datT {α : Type} {f : α → PyData} {l : List α} {a : Addr} {xs : List V} {tg : TG} {tt : TT} {te : TE} {vs : List Nat} {σ : L2.St} {H1 : Hp} {D : Addr} {Qd : Hp → Prop} (g : α → Option PyData)
    (hD : H1 D = none) (hS : SqT K H1 a xs) (hx : DpAll K H1 xs (l.map f))
    (hs : ∀ i v x H, xs[i]? = some v → l[i]? = some x → Dp K H v (f x) → LcP K H1 D l g i H → tg v (wipe σ vs) H fun σ2 H2 => wipe σ2 vs = wipe σ vs ∧ tt σ2 H2 fun b H3 =>
      if b = true then te σ2 H3 fun y H4 => ∃ acc, H4 D = some (.lst acc) ∧ acc.length < sizeLine ∧ LcP K H1 D l g (i + 1) (upd H4 D (.lst (acc ++ [y]))) else LcP K H1 D l g (i + 1) H3)
    (hd : ∀ H ys, Same H1 H → H D = some (.lst ys) → DpAll K (less D H) ys (l.filterMap g) → Qd H) :
    ∃ W : Nat → Nat → Hp → Prop, (∃ m, W 0 m (upd H1 D (.lst []))) ∧ ∀ i m H, W i m H →
      ((Itt K a).stop i H ∧ Qd H) ∨ ((Itt K a).go i H ∧ ∃ Nx : Hp → Prop, (∀ H', Nx H' → ∃ m', m' < m ∧ W (i + 1) m' H') ∧ ∀ x H', (Itt K a).yld i H x H' → tg x (wipe σ vs) H' fun σ2 H2 => wipe σ2 vs = wipe σ vs ∧ tt σ2 H2 fun b H3 =>
        if b = true then te σ2 H3 fun y H4 => ∃ acc, H4 D = some (.lst acc) ∧ acc.length < sizeLine ∧ Nx (upd H4 D (.lst (acc ++ [y]))) else Nx H3) := by
  have hxl := DpAll.len hx
  rw [List.length_map] at hxl
  refine lc_it (walk_tup (K := K) (a := a) (xs := xs)) (LcP K H1 D l g) ⟨same_upd hD, [], upd_same, by simpa using DpAll.nil, Nat.le_refl _⟩ (fun i H _ P => Same.sqT P.same hS) (fun i v H H' _ P y => ?_) (fun H P => ?_)
  · obtain ⟨rfl, hv⟩ := y
    obtain ⟨x, h1, h2⟩ := dp_at hx hv
    exact hs i v x _ hv h1 (Dp.same P.same _ _ h2) P
  · obtain ⟨s1, ys, h1, h2, h3⟩ := P
    rw [hxl, List.take_length] at h2
    exact hd H ys s1 h1 h2
/-- a new object -/
theorem al_s {H H' : Hp} {q : Addr} {o : HO} (e : upd H q o = H') (h : H q = none) : Same H H' := by subst e; exact same_upd h
theorem al_v {H H' : Hp} {q : Addr} {o : HO} (e : upd H q o = H') : H' q = some o := by subst e; exact upd_same
/-- data at a new object -/
theorem dp_tup {H : Hp} {q : Addr} {vs : List V} {ds : List PyData} (h : H q = some (.tup vs)) (d : DpAll K H vs ds) : Dp K H (.ref q) (.tuple ds) := .tup (SqT.of h) d
theorem dp_lst {H : Hp} {q : Addr} {vs : List V} {ds : List PyData} (h : H q = some (.lst vs)) (d : DpAll K H vs ds) : Dp K H (.ref q) (.list ds) := .lst (SqL.of h) d
theorem dps_s {H : Hp} {z : Str} {vs : List V} {ds : List PyData} (d : DpAll K H vs ds) : DpAll K H (.str z :: vs) (.str z :: ds) := .cons (.str z) d
theorem dps_n {H : Hp} {vs : List V} {ds : List PyData} (d : DpAll K H vs ds) : DpAll K H (.non :: vs) (.none :: ds) := .cons .non d
end
section
variable {X : Cx} {cls : Str} {ps : List Str} {k : Nat} {sp : Sp} {K : PySem.W.Frag}
theorem op_eqOK (F : MtAt X.prog X.w X.K X.mg X.base cls "__eq__" ps k sp) (hr : Room k X.A) (hK : X.K = K := by rfl) : OpR X (compareOp .Eq) (rEqO K (He.ga K cls) sp) := by
  subst hK
  exact op_eqO F hr
end
end Ow
/-! Ow.B2: types of data; two tests of two -/
namespace Ow
open PySem PySem.Spec PyProof.Rows L2
def tyN : PyData → String
  | .none => "NoneType"
  | .bool _ => "bool"
  | .int _ => "int"
  | .str _ => "str"
  | .list _ => "list"
  | .tuple _ => "tuple"
  | .dict _ => "dict"
def isSt : PyData → Bool
  | .str _ => true
  | _ => false
def isTu : PyData → Bool
  | .tuple _ => true
  | _ => false
section
variable {K : PySem.W.Frag} {H : Hp}
theorem ty_T {a : Addr} {xs : List V} (h : SqT K H a xs) : TyX K H (.ref a) (.type "tuple") := by
  rcases h with (h | ⟨o, h⟩) | ⟨o, its, n, h1, h2, _⟩
  · exact .base (.tup h)
  · exact .fTuple h
  · exact .kTuple h1 h2
theorem ty_L {a : Addr} {xs : List V} (h : SqL K H a xs) : TyX K H (.ref a) (.type "list") := by
  rcases h with (h | ⟨o, h⟩) | ⟨o, its, n, h1, h2, _⟩
  · exact .base (.lst h)
  · exact .base (.frz h)
  · exact .kList h1 h2
theorem ty_dp {v : V} {d : PyData} (h : Dp K H v d) : TyX K H v (.type (tyN d)) := by
  cases h with
  | non => exact .base .non
  | bl b => exact .base (.bl b)
  | int i => exact .base (.int i)
  | str z => exact .base (.str z)
  | lst h _ => exact ty_L h
  | tup h _ => exact ty_T h
theorem isi_str (d : PyData) : PySem.W.kitOne K (.type (tyN d)) (.type "str") = some (isSt d) := by
  cases d with
  | none => exact kit_ty (a := "NoneType") (b := "str") (r := false) (by decide +kernel)
  | bool _ => exact kit_ty (a := "bool") (b := "str") (r := false) (by decide +kernel)
  | int _ => exact kit_ty (a := "int") (b := "str") (r := false) (by decide +kernel)
  | str _ => exact kit_ty (a := "str") (b := "str") (r := true) (by decide +kernel)
  | list _ => exact kit_ty (a := "list") (b := "str") (r := false) (by decide +kernel)
  | tuple _ => exact kit_ty (a := "tuple") (b := "str") (r := false) (by decide +kernel)
  | dict _ => exact kit_ty (a := "dict") (b := "str") (r := false) (by decide +kernel)
theorem isi_tup (d : PyData) : PySem.W.kitOne K (.type (tyN d)) (.type "tuple") = some (isTu d) := by
  cases d with
  | none => exact kit_ty (a := "NoneType") (b := "tuple") (r := false) (by decide +kernel)
  | bool _ => exact kit_ty (a := "bool") (b := "tuple") (r := false) (by decide +kernel)
  | int _ => exact kit_ty (a := "int") (b := "tuple") (r := false) (by decide +kernel)
  | str _ => exact kit_ty (a := "str") (b := "tuple") (r := false) (by decide +kernel)
  | list _ => exact kit_ty (a := "list") (b := "tuple") (r := false) (by decide +kernel)
  | tuple _ => exact kit_ty (a := "tuple") (b := "tuple") (r := true) (by decide +kernel)
  | dict _ => exact kit_ty (a := "dict") (b := "tuple") (r := false) (by decide +kernel)
end
theorem or_and_ {t1 t2 t3 t4 : TE} {a1 a2 a3 a4 : Bool} {σ : L2.St} {H : Hp} {Q : VK} (h1 : ∀ Q : VK, Q (.bl a1) H → t1 σ H Q) (h2 : ∀ Q : VK, Q (.bl a2) H → t2 σ H Q) (h3 : ∀ Q : VK, Q (.bl a3) H → t3 σ H Q) (h4 : ∀ Q : VK, Q (.bl a4) H → t4 σ H Q)
    (h : Q (.bl ((a1 && a2) || (a3 && a4))) H) : tOrV (tAndV t1 t2) (tAndV t3 t4) σ H Q := by
  have kA : ∀ R : VK, R (.bl (a1 && a2)) H → tAndV t1 t2 σ H R := fun R r => by
    refine h1 _ ⟨a1, rfl, ?_⟩
    cases a1 with
    | true => rw [if_pos rfl]; exact h2 _ r
    | false => rw [if_neg (by decide)]; exact r
  have kB : ∀ R : VK, R (.bl (a3 && a4)) H → tAndV t3 t4 σ H R := fun R r => by
    refine h3 _ ⟨a3, rfl, ?_⟩
    cases a3 with
    | true => rw [if_pos rfl]; exact h4 _ r
    | false => rw [if_neg (by decide)]; exact r
  refine kA _ ⟨_, rfl, ?_⟩
  cases e : (a1 && a2) with
  | true => rw [if_pos rfl]; rw [e] at h; exact h
  | false => rw [if_neg (by decide)]; rw [e] at h; exact kB _ h
end Ow
namespace Ow
open PySem PySem.Spec PyProof.Rows L2
theorem SchAt.but {K : PySem.W.Frag} {H H' : Hp} {p x : Addr} {n : Nat} {z : Str} {ts : List Tab} (h : SchAt K H x z ts) (hp : PoolAt H p n) (k : Keep p H H') : SchAt K H' x z ts := by
  obtain ⟨_, _, _, e, _⟩ := hp
  exact (h.less e).same ((less_keep k).trans (less_same _ _))
end Ow

/-! Ow.C1: equal data, equal texts; lists taken apart -/
namespace Ow
open PySem PySem.Spec PyProof.Rows L2
theorem loop_bound {n : Int} (h : 0 ≤ n) : 1 ≤ (if (if n < 8 then n else 8) > 1 then (if n < 8 then n else 8) else 1) ∧ (if (if n < 8 then n else 8) > 1 then (if n < 8 then n else 8) else 1) ≤ 8 := by
  by_cases h1 : n < 8
  · rw [if_pos h1]
    by_cases h2 : n > 1
    · rw [if_pos h2]
      omega
    · rw [if_neg h2]
      omega
  · rw [if_neg h1]
    exact ⟨by decide, by decide⟩
def spLaw (K : PySem.W.Frag) : Sp := fun vs H Q _ => ∃ (a : Addr) (ns : List Int), vs = [.ref a] ∧ SqL K H a (ns.map V.int) ∧ ns.length ≤ 63 ∧ ∀ H', Q (.bl true) H'
theorem eqv_str (a b : Str) : PyData.eqv (.str a) (.str b) = true ↔ a = b := by
  have e : PyData.eqv (.str a) (.str b) = (a == b) := by simp only [PyData.eqv]
  rw [e, beq_iff_eq]
theorem eqv_tup (a b : List PyData) : PyData.eqv (.tuple a) (.tuple b) = PyData.eqvAll a b := by simp only [PyData.eqv]
theorem eqv_lst (a b : List PyData) : PyData.eqv (.list a) (.list b) = PyData.eqvAll a b := by simp only [PyData.eqv]
theorem eqvAll_cons (a b : PyData) (l m : List PyData) : PyData.eqvAll (a :: l) (b :: m) = (PyData.eqv a b && PyData.eqvAll l m) := by
  rw [PyData.eqvAll.eq_2]
theorem eqvAll_nn : PyData.eqvAll [] [] = true := by simp only [PyData.eqvAll]
theorem eqvAll_nc (b : PyData) (m : List PyData) : PyData.eqvAll [] (b :: m) = false := by simp only [PyData.eqvAll]
theorem eqvAll_cn (b : PyData) (m : List PyData) : PyData.eqvAll (b :: m) [] = false := by simp only [PyData.eqvAll]
theorem eqv_map {α : Type} {f : α → PyData} (h : ∀ a b, PyData.eqv (f a) (f b) = true ↔ a = b) : ∀ l m : List α, PyData.eqvAll (l.map f) (m.map f) = true ↔ l = m
  | [], [] => by simp [eqvAll_nn]
  | [], b :: m => by simp [eqvAll_nc]
  | a :: l, [] => by simp [eqvAll_cn]
  | a :: l, b :: m => by
    rw [List.map_cons, List.map_cons, eqvAll_cons, Bool.and_eq_true, h, eqv_map h l m, List.cons.injEq]
theorem eqv_oD : ∀ a b : Option Str, PyData.eqv (oD a) (oD b) = true ↔ a = b
  | none, none => by simp [oD, PyData.eqv]
  | none, some b => by simp [oD, PyData.eqv]
  | some a, none => by simp [oD, PyData.eqv]
  | some a, some b => by
    show PyData.eqv (.str a) (.str b) = true ↔ _
    rw [eqv_str, Option.some.injEq]
theorem eqv_dCol (a b : Col) : PyData.eqv (dCol a) (dCol b) = true ↔ a = b := by
  obtain ⟨a1, a2, a3, a4⟩ := a
  obtain ⟨b1, b2, b3, b4⟩ := b
  unfold dCol
  rw [eqv_tup, eqvAll_cons, eqvAll_cons, eqvAll_cons, eqvAll_cons, eqvAll_nn]
  simp only [Bool.and_eq_true, eqv_str, eqv_oD, Col.mk.injEq, and_true]
theorem eqv_dTab (a b : Tab) : PyData.eqv (dTab a) (dTab b) = true ↔ a = b := by
  obtain ⟨a1, a2⟩ := a
  obtain ⟨b1, b2⟩ := b
  unfold dTab
  rw [eqv_tup, eqvAll_cons, eqvAll_cons, eqvAll_nn, eqv_lst]
  simp only [Bool.and_eq_true, eqv_str, eqv_map eqv_dCol, Prod.mk.injEq, and_true]
theorem eqv_dTabs (a b : List Tab) : PyData.eqv (dTabs a) (dTabs b) = true ↔ a = b := by
  unfold dTabs
  rw [eqv_lst, eqv_map eqv_dTab]
def txt (ts : List Tab) : Str := Txt.join ("\n" : Str) (linesOf ts)
theorem txt_inj {a b : List Tab} (ha : TabsOk a) (hb : TabsOk b) (h : txt a = txt b) : a = b := by
  have h1 := (text_read ha).2
  have h2 := (text_read hb).2
  unfold txt at h
  rw [h, h2] at h1
  cases h1
  rfl
theorem txt_eqv {a b : List Tab} (ha : TabsOk a) (hb : TabsOk b) : decide (V.str (txt a) = V.str (txt b)) = PyData.eqv (dTabs a) (dTabs b) := by
  rw [Bool.eq_iff_iff, eqv_dTabs, decide_eq_true_iff]
  constructor
  · intro h
    injection h with h
    exact txt_inj ha hb h
  · intro h
    rw [h]
theorem shp_dCol {ns : List Str} {c : Col} (hn : ∀ t ∈ ns, isW t = true) (h : ColOk ns c) : Shp 1 (dCol c) := by
  have low : ∀ z : Str, Low z → PyData.strOk z = true := fun z hz => strOk_low fun x hx => by have := hz x hx; omega
  have k1 : PyData.strOk c.kind = true := by rcases h.k with ⟨e, _⟩ | ⟨e | e, _⟩ <;> rw [e] <;> decide +kernel
  refine .tup fun d hd => ?_
  simp only [List.mem_cons, List.not_mem_nil, or_false] at hd
  rcases hd with rfl | rfl | rfl | rfl
  · exact .str (strOk_word h.w)
  · exact .str k1
  · rcases h.k with ⟨_, t, r, e1, e2, h1, h2⟩ | ⟨_, e1, e2⟩
    · rw [e1]; exact .str (strOk_word (hn t h1))
    · rw [e1]; exact .non
  · rcases h.k with ⟨_, t, r, e1, e2, h1, h2⟩ | ⟨_, e1, e2⟩
    · rw [e2]; exact .str (low _ (low_rul h2))
    · rw [e2]; exact .non
theorem shp_dTabs {ts : List Tab} (h : TabsOk ts) : SeqAt.shaped (dTabs ts) = true := by
  refine (Shp.lst (n := 3) fun d hd => ?_).shaped (by decide)
  obtain ⟨t, ht, rfl⟩ := List.mem_map.mp hd
  refine .tup fun e he => ?_
  simp only [List.mem_cons, List.not_mem_nil, or_false] at he
  rcases he with rfl | rfl
  · exact .str (strOk_word (h.tab t ht).w)
  · refine .lst fun d hd => ?_
    obtain ⟨c, hc, rfl⟩ := List.mem_map.mp hd
    exact shp_dCol h.names ((h.tab t ht).cols c hc)
section
variable {K : PySem.W.Frag} {H : Hp}
theorem DpAll.strs_inv : ∀ {vs : List V} {zs : List Str}, DpAll K H vs (zs.map PyData.str) → vs = zs.map V.str
  | _, [], h => by cases h; rfl
  | _, z :: zs, h => by
    cases h with
    | cons h1 h2 =>
      cases h1
      rw [DpAll.strs_inv h2]
      rfl
theorem DpAll.bls_inv : ∀ {vs : List V} {zs : List Bool}, DpAll K H vs (zs.map PyData.bool) → vs = zs.map V.bl
  | _, [], h => by cases h; rfl
  | _, z :: zs, h => by
    cases h with
    | cons h1 h2 =>
      cases h1
      rw [DpAll.bls_inv h2]
      rfl
theorem DpAll.app_inv : ∀ {ds es : List PyData} {vs : List V}, DpAll K H vs (ds ++ es) → ∃ us ws, vs = us ++ ws ∧ DpAll K H us ds ∧ DpAll K H ws es
  | [], es, vs, h => ⟨[], vs, rfl, .nil, h⟩
  | d :: ds, es, _, h => by
    cases h with
    | cons h1 h2 =>
      obtain ⟨us, ws, rfl, h3, h4⟩ := DpAll.app_inv h2
      exact ⟨_ :: us, ws, rfl, .cons h1 h3, h4⟩
end
theorem fm_some {α β : Type} (f : α → β) (l : List α) : (l.filterMap fun x => some (f x)) = l.map f := by
  induction l with
  | nil => rfl
  | cons a l ih => rw [List.filterMap_cons, ih] <;> rfl
theorem cut_last (ys : List V) (v : V) : cutV (ys ++ [v]) none (some (-1)) = ys := by
  have e : HT.sIx (ys ++ [v]).length (ys ++ [v]).length (some (-1)) = ys.length := by
    show (if (-1 : Int) < 0 then ((-1 : Int) + ((ys ++ [v]).length : Int)).toNat else min (-1 : Int).toNat (ys ++ [v]).length) = ys.length
    rw [if_pos (by decide), List.length_append]
    simp
    omega
  unfold cutV
  rw [e, HT.sIx_none, List.drop_zero, Nat.sub_zero, List.take_append_of_le_length (Nat.le_refl _), List.take_length]
theorem last_of {α : Type} : ∀ {l : List α}, 0 < l.length → ∃ us t, l = us ++ [t]
  | [], h => absurd h (by simp)
  | [a], _ => ⟨[], a, rfl⟩
  | a :: b :: l, _ => by
    obtain ⟨us, t, e⟩ := last_of (l := b :: l) (by simp)
    exact ⟨a :: us, t, by rw [e]; rfl⟩
theorem join_small {ts : List Tab} (ok : TabsOk ts) : ((linesOf ts).map (·.length)).sum + (linesOf ts).length * (("\n" : Str)).length ≤ 16777216 := by
  have h1 := sum_le fun z hz => (line_ok ok z hz).1
  have h2 := lines_len fun t ht => (ok.tab t ht).few
  have h4 : (("\n" : Str)).length = 1 := by decide +kernel
  have h5 := ok.few
  rw [h4]
  omega
/-- one more flag in the last table -/
theorem more_ok {us : List Tab} {t : Tab} {z : Str} (ok : TabsOk (us ++ [t])) (h5 : t.2.length ≤ 5) (z1 : isW z = true) (z2 : z ∉ t.2.map Col.name) (z3 : z ∉ BAR) : TabsOk (us ++ [(t.1, t.2 ++ [(⟨z, ("flag" : Str), none, none⟩ : Col)])]) := by
  have en : (us ++ [(t.1, t.2 ++ [(⟨z, ("flag" : Str), none, none⟩ : Col)])]).map Prod.fst = (us ++ [t]).map Prod.fst := by simp
  refine ⟨by have := ok.few; simpa using this, by simp, by rw [en]; exact ok.nd, fun u hu => ?_⟩
  rw [en]
  rcases List.mem_append.mp hu with hu | hu
  · exact ok.tab u (List.mem_append_left _ hu)
  · rw [List.mem_singleton.mp hu]
    have tok := ok.tab t (by simp)
    refine ⟨tok.w, by simp; omega, ?_, fun c hc => ?_⟩
    · rw [List.map_append]
      refine List.nodup_append.mpr ⟨tok.nd, by simp, fun a ha b hb e => ?_⟩
      have : b = z := by simpa using hb
      subst this
      subst e
      exact z2 ha
    · rcases List.mem_append.mp hc with hc | hc
      · exact tok.cols c hc
      · rw [List.mem_singleton.mp hc]
        exact ⟨z1, z3, .inr ⟨.inr rfl, rfl, rfl⟩⟩
theorem more_ne {us : List Tab} {t : Tab} {c : Col} : us ++ [(t.1, t.2 ++ [c])] ≠ us ++ [t] := by
  intro h
  have h1 := List.append_cancel_left h
  have h2 : (t.1, t.2 ++ [c]) = t := by simpa using h1
  have h3 := congrArg (fun u : Tab => u.2.length) h2
  simp at h3
end Ow
namespace Ow
open PySem PySem.Spec PyProof.Rows L2
theorem less_at {p q : Addr} {H : Hp} {o : HO} (n : q ≠ p) (h : H q = some o) : less p H q = some o := by rw [less_ne n]; exact h
end Ow
/-! Ow.C2: xs + ys of any two lists -/
namespace Ow
open PySem PySem.Spec PyProof.Rows L2
def rCatSq (K : PySem.W.Frag) : R2 := fun x y H Q => ∃ l b xs zs, x = .ref l ∧ y = .ref b ∧ SqL K H l xs ∧ SqL K H b zs ∧ xs.length + zs.length ≤ sizeLine ∧ ∀ p, H p = none → Q (.ref p) (upd H p (.lst (xs ++ zs)))
theorem op_catS {X : Cx} : OpR X (binaryOp .Add) (rCatSq X.K) := by
  intro pins s σ H x y v u Q I rx ry h
  obtain ⟨l, b, xs, zs, rfl, rfl, hH, hB, hz, q⟩ := h
  cases rx
  cases ry
  obtain ⟨its, r, P1, hl⟩ := I.list hH
  obtain ⟨its2, r2, P2, hl2⟩ := I.list hB
  obtain ⟨⟨cls, dd, data, sl⟩, ho, hc, n, hd⟩ := P1.isList
  obtain ⟨⟨cls2, dd2, data2, sl2⟩, ho2, hc2, n2, hd2⟩ := P2.isList
  simp only at hc hd hc2 hd2
  subst hc hd hc2 hd2
  have e : its.toArray ++ its2.toArray = (its ++ its2).toArray := by simp
  have l1 := r.length
  have l2 := r2.length
  refine PySem.concat_meets ⟨_, ho, rfl⟩ ⟨_, ho2, rfl⟩ noFill_list_add seq_list_add PySem.F.slot_list_add PySem.F.entry_list_add (PySem.F.args_list_add_2 _ _) (list_addW l b its.toArray its2.toArray n n2 dd dd2 sl sl2 (by rw [List.size_toArray, List.size_toArray]; omega)) ⟨ho, ho2, ?_⟩
  rw [e]
  exact ⟨.ref _, _, I.lnew (t' := s.toks) (r.append r2) (by rw [List.length_append]; omega), rfl, q _ I.fresh⟩
theorem op_catSK {X : Cx} {K : PySem.W.Frag} (hK : X.K = K := by rfl) : OpR X (binaryOp .Add) (rCatSq K) := by subst hK; exact op_catS
end Ow
/-! Ow.C3: comprehensions by a relation that stands whatever the heap -/
namespace Ow
open PySem PySem.Spec PyProof.Rows L2
section
variable {K : PySem.W.Frag} {α β : Type} {R0 : V → α → Prop} {R : V → β → Prop} {H1 : Hp} {D : Addr} {l : List α} {g : α → Option β} {i : Nat} {H : Hp}
structure LcR (R : V → β → Prop) (H1 : Hp) (D : Addr) (l : List α) (g : α → Option β) (i : Nat) (H : Hp) : Prop where
  same : Same H1 H
  ex : ∃ ys, H D = some (.lst ys) ∧ Paired R ys ((l.take i).filterMap g) ∧ ys.length ≤ i
theorem Paired.app {α β : Type} {R : α → β → Prop} : ∀ {a c : List α} {b d : List β}, Paired R a b → Paired R c d → Paired R (a ++ c) (b ++ d)
  | _, _, _, _, .nil, h => h
  | _, _, _, _, .cons r t, h => .cons r (Paired.app t h)
theorem Paired.get {α β : Type} {R : α → β → Prop} : ∀ {a : List α} {b : List β} {i : Nat} {x : α}, Paired R a b → a[i]? = some x → ∃ y, b[i]? = some y ∧ R x y
  | _, _, i, x, .nil, e => by simp at e
  | _, _, 0, x, .cons r t, e => ⟨_, rfl, by simpa using (show x = _ by simpa using e.symm) ▸ r⟩
  | _, _, i + 1, x, .cons r t, e => by
    obtain ⟨y, h1, h2⟩ := Paired.get (i := i) (x := x) t (by simpa using e)
    exact ⟨y, by simpa using h1, h2⟩
theorem LcR.step {x : α} {H4 : Hp} {y : V} {d : β} (P : LcR R H1 D l g i H) (hl : l.length ≤ 100000) (s : Same H H4) (hx : l[i]? = some x) (hg : g x = some d) (hd : R y d) (hD : H1 D = none) :
    ∃ acc, H4 D = some (.lst acc) ∧ acc.length < sizeLine ∧ LcR R H1 D l g (i + 1) (upd H4 D (.lst (acc ++ [y]))) := by
  obtain ⟨s1, ys, h1, h2, h3⟩ := P
  have hi : i < l.length := (List.getElem?_eq_some_iff.mp hx).1
  refine ⟨ys, s _ _ h1, by rw [sizeLine_eq]; omega, ?_, _, upd_same, ?_, by rw [List.length_append]; simp; omega⟩
  · exact fun b o q => by rw [upd_ne (ne_of_none q hD)]; exact s _ _ (s1 _ _ q)
  · rw [List.take_add_one, hx, List.filterMap_append]
    refine Paired.app h2 ?_
    have e2 : List.filterMap g (some x).toList = [d] := by simp [hg]
    rw [e2]
    exact .cons hd .nil
theorem LcR.skip {x : α} {H4 : Hp} (P : LcR R H1 D l g i H) (s : Same H H4) (hx : l[i]? = some x) (hg : g x = none) : LcR R H1 D l g (i + 1) H4 := by
  obtain ⟨s1, ys, h1, h2, h3⟩ := P
  refine ⟨s1.trans s, ys, s _ _ h1, ?_, by omega⟩
  rw [List.take_add_one, hx, List.filterMap_append]
  have e2 : List.filterMap g (some x).toList = [] := by simp [hg]
  rw [e2, List.append_nil]
  exact h2
theorem lc_rel {a : Addr} {xs : List V} {tg : TG} {tt : TT} {te : TE} {vs : List Nat} {σ : L2.St} {Qd : Hp → Prop} (R : V → β → Prop) (g : α → Option β) (hD : H1 D = none) (hS : SqL K H1 a xs) (hx : Paired R0 xs l)
    (hs : ∀ i v x H, xs[i]? = some v → l[i]? = some x → R0 v x → LcR R H1 D l g i H → tg v (wipe σ vs) H fun σ2 H2 => wipe σ2 vs = wipe σ vs ∧ tt σ2 H2 fun b H3 =>
      if b = true then te σ2 H3 fun y H4 => ∃ acc, H4 D = some (.lst acc) ∧ acc.length < sizeLine ∧ LcR R H1 D l g (i + 1) (upd H4 D (.lst (acc ++ [y]))) else LcR R H1 D l g (i + 1) H3)
    (hd : ∀ H ys, Same H1 H → H D = some (.lst ys) → Paired R ys (l.filterMap g) → Qd H) :
    ∃ W : Nat → Nat → Hp → Prop, (∃ m, W 0 m (upd H1 D (.lst []))) ∧ ∀ i m H, W i m H →
      ((Itl K a).stop i H ∧ Qd H) ∨ ((Itl K a).go i H ∧ ∃ Nx : Hp → Prop, (∀ H', Nx H' → ∃ m', m' < m ∧ W (i + 1) m' H') ∧ ∀ x H', (Itl K a).yld i H x H' → tg x (wipe σ vs) H' fun σ2 H2 => wipe σ2 vs = wipe σ vs ∧ tt σ2 H2 fun b H3 =>
        if b = true then te σ2 H3 fun y H4 => ∃ acc, H4 D = some (.lst acc) ∧ acc.length < sizeLine ∧ Nx (upd H4 D (.lst (acc ++ [y]))) else Nx H3) := by
  have hxl := Paired.length hx
  refine lc_list (K := K) (a := a) (xs := xs) (LcR R H1 D l g) ⟨same_upd hD, [], upd_same, by simpa using Paired.nil, Nat.le_refl _⟩ (fun i H _ P => P.same.seq hS) (fun i v H hv P => ?_) (fun H P => ?_)
  · obtain ⟨x, h1, h2⟩ := Paired.get hx hv
    exact hs i v x H hv h1 h2 P
  · obtain ⟨s1, ys, h1, h2, h3⟩ := P
    rw [hxl, List.take_length] at h2
    exact hd H ys s1 h1 h2
end
section
variable {K : PySem.W.Frag} {α : Type} {f : α → PyData} {G : Hp}
theorem paired_of : ∀ {xs : List V} {l : List α}, DpAll K G xs (l.map f) → Paired (fun v x => Dp K G v (f x)) xs l
  | _, [], h => by cases h; exact .nil
  | _, a :: l, h => by
    cases h with
    | cons h1 h2 => exact .cons h1 (paired_of h2)
theorem of_paired : ∀ {xs : List V} {l : List α}, Paired (fun v x => Dp K G v (f x)) xs l → DpAll K G xs (l.map f)
  | _, [], h => by cases h; exact .nil
  | _, a :: l, h => by
    cases h with
    | cons h1 h2 => exact .cons h1 (of_paired h2)
theorem of_paired0 : ∀ {xs : List V} {l : List PyData}, Paired (fun v x => Dp K G v x) xs l → DpAll K G xs l
  | _, [], h => by cases h; exact .nil
  | _, a :: l, h => by
    cases h with
    | cons h1 h2 => exact .cons h1 (of_paired0 h2)
theorem strs_of {zs : List Str} : ∀ {xs : List V}, Paired (fun v z => v = V.str z) xs zs → xs = zs.map V.str := by
  induction zs with
  | nil => intro xs h; cases h; rfl
  | cons z zs ih =>
    intro xs h
    cases h with
    | cons h1 h2 => rw [h1, ih h2]; rfl
end
end Ow
/-! Ow.C4: readings, one step; an expression with branches read once -/
namespace Ow
open PySem PySem.Spec PyProof.Rows L2
theorem cons_ {te : TE} {tr : TA} {σ : L2.St} {H : Hp} {Q : List V → Hp → Prop} (h : te σ H fun x H1 => tr σ H1 fun xs H2 => Q (x :: xs) H2) : tCons te tr σ H Q := h
theorem once_ {te : TE} {σ : L2.St} {H : Hp} {Q : VK} {Good : V → Hp → Prop} (h : ∀ Q : VK, (∀ v H', Good v H' → Q v H') → te σ H Q) (hk : ∀ v H', Good v H' → Q v H') : te σ H Q := h Q hk
theorem _root_.L2.Dp.keep {K : PySem.W.Frag} {p : Addr} {H H' : Hp} {v : V} {d : PyData} (h : Dp K (less p H) v d) (k : Keep p H H') : Dp K (less p H') v d := Dp.same (less_keep k) _ _ h
theorem _root_.L2.Dp.full {K : PySem.W.Frag} {p : Addr} {H : Hp} {v : V} {d : PyData} (h : Dp K (less p H) v d) : Dp K H v d := Dp.same (less_same _ _) _ _ h
end Ow
namespace Ow
open PySem PySem.Spec PyProof.Rows L2
/-- a statement with branches read once -/
theorem seq_once {s1 u : TS} {D : Ends} {σ : L2.St} {H : Hp} (Good : Hp → Prop) (h : ∀ N : L2.St → Hp → Prop, (∀ H', Good H' → N σ H') → s1 { D with nx := N } σ H) (hk : ∀ H', Good H' → u D σ H') : tSeq s1 u D σ H := h (u D) hk
theorem eqv_same {d : PyData} (h : SeqAt.shaped d = true) : PyData.eqv d d = true := SeqAt.eqv_refl _ (SeqAt.canLay_of_shaped h)
end Ow
namespace Ow
open PySem PySem.Spec PyProof.Rows L2
theorem nxt_ {D : Ends} {σ : L2.St} {H : Hp} (h : D.nx σ H) : tNext D σ H := h
end Ow

/-! Ow.T1: texts: lengths of what is joined and split; signs that are not there; slices of lists -/
namespace Ow
open PySem PySem.Spec PyProof.Rows L2 TL
/-- the signs of a list of words, one more for each -/
def wt (l : List Str) : Nat := (l.map (·.length)).sum + l.length
theorem wt_nil : wt [] = 0 := rfl
theorem wt_cons (z : Str) (l : List Str) : wt (z :: l) = z.length + 1 + wt l := by
  unfold wt
  rw [List.map_cons, List.sum_cons, List.length_cons]
  omega
theorem wt_app (l m : List Str) : wt (l ++ m) = wt l + wt m := by
  unfold wt
  rw [List.map_append, List.sum_append, List.length_append]
  omega
theorem wt_cut (l : List Str) (i : Nat) : wt (l.take i) + wt (l.drop i) = wt l := by
  rw [← wt_app, List.take_append_drop]
theorem wt_drop (l : List Str) (i : Nat) : wt (l.drop i) ≤ wt l := by
  have := wt_cut l i
  omega
theorem wt_drop1 (l : List Str) (i : Nat) : wt (l.drop (i + 1)) ≤ wt (l.drop i) := by
  rw [← List.drop_drop]
  exact wt_drop _ _
theorem join_wt {y : Str} (hy : y.length = 1) : ∀ {l : List Str}, l ≠ [] → (Str.join y l).length + 1 = wt l
  | [], h => absurd rfl h
  | [x], _ => by
    show x.length + 1 = wt [x]
    rw [wt_cons, wt_nil]
  | x :: z :: r, _ => by
    have ih := join_wt hy (l := z :: r) (by simp)
    show (x ++ y ++ Str.join y (z :: r)).length + 1 = _
    rw [len_app, len_app, wt_cons, ← ih]
    omega
theorem join_le {y : Str} (hy : y.length = 1) (l : List Str) : (Txt.join y l).length ≤ wt l := by
  rw [TL.join_eq]
  cases l with
  | nil => show (Str.empty).length ≤ 0; decide
  | cons z l =>
    have := join_wt hy (l := z :: l) (by simp)
    omega
theorem split_wt {x y : Str} (hy : y.length = 1) (hs : Txt.split x y ≠ []) : wt (Txt.split x y) = x.length + 1 := by
  rw [← join_wt hy hs, StrLaws.join_split]
theorem mem_joinL {S : List Nat} {c : Nat} : ∀ {ps : List (List Nat)}, c ∈ joinL S ps → c ∈ S ∨ ∃ p ∈ ps, c ∈ p
  | [], h => nomatch h
  | [q], h => .inr ⟨q, by simp, h⟩
  | q :: r :: t, h => by
    have h : c ∈ q ++ (S ++ joinL S (r :: t)) := h
    rcases List.mem_append.mp h with h | h
    · exact .inr ⟨q, by simp, h⟩
    · rcases List.mem_append.mp h with h | h
      · exact .inl h
      · rcases mem_joinL h with h | ⟨p, hp, hc⟩
        · exact .inl h
        · exact .inr ⟨p, List.mem_cons_of_mem _ hp, hc⟩
theorem joinL_mem {S : List Nat} {c : Nat} : ∀ {ps : List (List Nat)} {p : List Nat}, p ∈ ps → c ∈ p → c ∈ joinL S ps
  | [], _, h, _ => nomatch h
  | [q], p, h, hc => by
    rw [List.mem_singleton.mp h] at hc
    exact hc
  | q :: r :: t, p, h, hc => by
    show c ∈ q ++ (S ++ joinL S (r :: t))
    rcases List.mem_cons.mp h with rfl | h
    · exact List.mem_append_left _ hc
    · exact List.mem_append_right _ (List.mem_append_right _ (joinL_mem h hc))
/-- a short text without a line feed -/
def LnS (M : Nat) (z : Str) : Prop := z.length ≤ M ∧ 10 ∉ tl z
theorem LnS.mono {M N : Nat} {z : Str} (h : LnS M z) (l : M ≤ N) : LnS N z := ⟨Nat.le_trans h.1 l, h.2⟩
theorem split_free {x y z : Str} (h : z ∈ Txt.split x y) {c : Nat} (hc : c ∉ tl x) : c ∉ tl z := fun q => hc (by
  rw [← StrLaws.join_split x y, tl_join]
  exact joinL_mem (List.mem_map_of_mem h) q)
theorem join_free {y : Str} {l : List Str} {c : Nat} (hy : c ∉ tl y) (h : ∀ z ∈ l, c ∉ tl z) : c ∉ tl (Txt.join y l) := fun q => by
  rw [TL.join_eq, tl_join] at q
  rcases mem_joinL q with q | ⟨p, hp, hc⟩
  · exact hy q
  · obtain ⟨z, hz, rfl⟩ := List.mem_map.mp hp
    exact h z hz hc
theorem ws_ln {M : Nat} {line z : Str} (h : LnS M line) (hz : z ∈ wsOf line) : LnS M z := ⟨Nat.le_trans (ws_len hz) h.1, split_free hz h.2⟩
theorem sp1 : ((" " : Str)).length = 1 := by decide +kernel
theorem nl1 : (("\n" : Str)).length = 1 := by decide +kernel
theorem sp_free : 10 ∉ tl (" " : Str) := by decide +kernel
theorem ws_wt (line : Str) : wt (wsOf line) = line.length + 1 := split_wt sp1 (ws_ne line)
/-- words joined by blanks -/
theorem join_ln {M : Nat} {l : List Str} (h : ∀ z ∈ l, 10 ∉ tl z) (hw : wt l ≤ M) : LnS M (Txt.join (" " : Str) l) := ⟨Nat.le_trans (join_le sp1 l) hw, join_free sp_free h⟩
theorem app_ln {M N : Nat} {x y : Str} (hx : LnS M x) (hy : LnS N y) : LnS (M + N) (x ++ y) := ⟨by rw [len_app]; have := hx.1; have := hy.1; omega, fun q => by
  rw [tl_append] at q
  rcases List.mem_append.mp q with q | q
  · exact hx.2 q
  · exact hy.2 q⟩
theorem word_ln {z : Str} (h : isW z = true) : LnS 8 z := ⟨(isW_len h).2, fun q => by have := isW_low h 10 q; omega⟩
theorem up_letT {c : Nat} (h : 97 ≤ c ∧ c ≤ 122) : Unicode.upperOf c = [c - 32] := by
  have q : ∀ i : Fin 26, Unicode.upperOf (97 + i.val) = [97 + i.val - 32] := by decide +kernel
  have := q ⟨c - 97, by omega⟩
  have e : 97 + (c - 97) = c := by omega
  simp only [e] at this
  exact this
theorem upper_memT {z : Str} {c : Nat} (h : c ∈ tl (Txt.upper z)) : ∃ d ∈ tl z, c ∈ Unicode.upperOf d := by
  have h : c ∈ ((z.cps.mapIdx fun i c => (Unicode.upperOf c).toArray).flatten).toList := h
  rw [Array.mem_toList_iff, Array.mem_flatten] at h
  obtain ⟨a, ha, hc⟩ := h
  obtain ⟨i, hi, rfl⟩ := Array.mem_iff_getElem.mp ha
  rw [Array.getElem_mapIdx] at hc
  refine ⟨z.cps[i]'(by simpa using hi), ?_, by simpa using hc⟩
  show _ ∈ z.cps.toList
  rw [Array.mem_toList_iff]
  exact Array.getElem_mem _
theorem upper_ln {z : Str} (h : isW z = true) : LnS 24 (Txt.upper z) := by
  refine ⟨by have := PyProof.Rows.len_upper z; have := (isW_len h).2; omega, fun q => ?_⟩
  obtain ⟨d, hd, hc⟩ := upper_memT q
  have hl := isW_low h d hd
  rw [up_letT hl] at hc
  have := List.mem_singleton.mp hc
  omega
/-! ### slices -/
theorem cut_to (xs : List V) (k : Nat) : cutV xs none (some (k : Int)) = xs.take k := by
  unfold cutV
  rw [HT.sIx_none, HT.sIx_nat, List.drop_zero, Nat.sub_zero]
  by_cases h : k ≤ xs.length
  · rw [Nat.min_eq_left h]
  · rw [Nat.min_eq_right (by omega), List.take_length, List.take_of_length_le (by omega)]
theorem cut_from (xs : List V) (k : Nat) : cutV xs (some (k : Int)) none = xs.drop k := by
  unfold cutV
  rw [HT.sIx_none, HT.sIx_nat]
  by_cases h : k ≤ xs.length
  · rw [Nat.min_eq_left h, List.take_of_length_le (by rw [List.length_drop]; omega)]
  · rw [Nat.min_eq_right (by omega), List.drop_length, List.drop_of_length_le (by omega), List.take_nil]
end Ow
namespace Ow
open PySem PySem.Spec PyProof.Rows L2 TL
section
variable {X : Cx} {K : PySem.W.Frag}
theorem call_tuple_ofK (hK : X.K = K := by rfl) : CallR X (.type "tuple") (fun xs H Q => ∃ p ys, xs = [.ref p] ∧ ((SqL K H p ys ∧ ∀ l, H l = none → Q (.ref l) (upd H l (.tup ys))) ∨ (SqT K H p ys ∧ Q (.ref p) H))) := by subst hK; exact call_tuple_of
end
theorem iteNN {c A B : Prop} [Decidable c] (hc : ¬ c) (h : A) : if (!decide c) = true then A else B := by
  rw [decide_eq_false hc]
  exact iteT h
theorem iteDF {c A B : Prop} [Decidable c] (hc : ¬ c) (h : B) : if decide c = true then A else B := by
  rw [decide_eq_false hc]
  exact iteF h
theorem iteDT {c A B : Prop} [Decidable c] (hc : c) (h : A) : if decide c = true then A else B := by
  rw [decide_eq_true hc]
  exact iteT h
/-- what the law's own look at a column says -/
def lawCol (ws ns tk : List Str) : Bool := match colOf ws ns with
  | none => false
  | some c => !decide (c.name ∈ tk) && !decide (tk.length = 6)
theorem colOf_name {ws ns : List Str} {c : Col} (h : colOf ws ns = some c) : c.name = wd ws 1 := by
  unfold colOf at h
  split at h
  · cases h
  · split at h
    · cases h; rfl
    · split at h
      · cases h; rfl
      · cases h
end Ow

/-! Ow.1: an exception class of the text, called with keywords too -/
namespace PySem
namespace OwE
open Builtin Builtin.ObjectAttr HandSPX
section
variable {M : Model} {A : Around} {E : Value → Shared → Prop} {h : Heap} {g : Array GenState} {d : Drawn} {t : Nat} {os : OsState}
variable {nm q : Str} {C N : Addr} {bs bm bmB : List Value} {hdct : Bool} {sn : List Str} {sub : List Value} {ab : Bool} {col : Option Bool} {dd : Option Addr} {k0 k1 k2 k3 k5 : Option Value} {B newId initId : String}
theorem newK_check (F : ExcBaseFacts B newId initId bmB) (hT : ∀ X : String, bm.contains (.type X) = bmB.contains (.type X)) {rest : List Value} {kw : List (Str × Value)} {Q : Unit → Shared → Prop}
    (hC : h.get? C = some (excClassObj nm q C N bs bm hdct sn sub ab col dd k0 k1 k2 k3 k5 newId)) (hq : Q () ⟨h, g, d, t, os⟩) : wpAny M A (checkBuiltinCall newId ⟨.ref C :: rest, kw⟩) Q E ⟨h, g, d, t, os⟩ := by
  have hcont : (Value.ref C :: bm).contains (.type B) = true := by rw [List.contains_cons, hT, F.hasB, Bool.or_true]
  have hstar := F.noStar
  simp only [checkBuiltinCall, F.newKind, F.newSplit, F.newRow]
  repeat (first | refine wpAny_loadPart_at hC ?_ | (refine wpAny_isSubtype_exc hC ?_; rw [hcont]) | refine wpAny_staticBase_exc hC ?_ | refine wpAny_madeBy_exc hC ?_ | simp only [bne_self_eq_false, Bool.false_eq_true, if_false] | wp_step)
  exact hq
end
section
variable {prog : Program} {w : World} {A : Around} {E : Value → Shared → Prop} {R : Result → Shared → Prop} {h : Heap} {g : Array GenState} {d : Drawn} {t : Nat} {os : OsState}
variable {nm q : Str} {C N : Addr} {bs bm bmB : List Value} {hdct : Bool} {sn : List Str} {sub : List Value} {ab : Bool} {col : Option Bool} {dd : Option Addr} {k0 k1 k2 k3 k5 : Option Value} {B newId initId : String}
theorem newK (F : ExcBaseFacts B newId initId bmB) (hT : ∀ X : String, bm.contains (.type X) = bmB.contains (.type X)) {rest : List Value} {kw : List (Str × Value)}
    (hC : h.get? C = some (excClassObj nm q C N bs bm hdct sn sub ab col dd k0 k1 k2 k3 k5 newId))
    (hq : R (.ok (.ret (.ref (h.objs.size + 1)))) ⟨(h.push { cls := .type "tuple", data := .seq rest.toArray }).push
      { cls := .ref C, data := .fields #[.ref h.objs.size, .none, .none, .none, .bool false, .none] }, g, d, t, os⟩) (hrest : rest.length ≤ sizeLine) :
    codeAny (model prog w) A (.builtin newId ⟨.ref C :: rest, kw⟩) R ⟨h, g, d, t, os⟩ := by
  have hends := F.ends
  have hcB : (Value.ref C :: bm).contains (.type B) = true := by rw [List.contains_cons, hT, F.hasB, Bool.or_true]
  have hcA : (Value.ref C :: bm).contains (.type "AttributeError") = false := by rw [List.contains_cons, hT, F.noAttr]; rfl
  have hcN : (Value.ref C :: bm).contains (.type "NameError") = false := by rw [List.contains_cons, hT, F.noName]; rfl
  refine codeAny_builtinAt F.entry ?_
  unfold Builtin.«BaseException.__new__»
  refine wpAt_bind ?_
  show wpAt _ _ _ (stack >>= _) _ _ _
  refine wpAt_bind (wpAt_stack fun p below => wpAt_of_wpAny ?_)
  wp_walk
  refine wpAt_of_wpAny ?_
  rw [F.owner]
  repeat (first | with_reducible refine wpAny_madeHere_exc F.canon hC ?_ | with_reducible refine wpAny_loadPart_at hC ?_ | (with_reducible refine wpAny_isSubtype_exc hC ?_; first | rw [hcB] | rw [hcA] | rw [hcN]) | wp_step)
  show R _ _
  rw [Heap.size_push]
  exact hq
theorem typeCallK (F : ExcBaseFacts B newId initId bmB) (hT : ∀ X : String, bm.contains (.type X) = bmB.contains (.type X)) {rest : List Value} {kw : List (Str × Value)} {fI : Addr} {Q : Fin → Shared → Prop}
    (hC : h.get? C = some (excClassObj nm q C N bs bm hdct sn sub ab col dd k0 k1 k2 k3 k5 newId))
    (hi : W.Looks (model prog w) h (typeLookup (.ref C) "__init__") (some (.ref fI))) (hb : ∀ self, W.Looks (model prog w) h (bindSpecial (.ref fI) self) (.ref fI, [self])) (hrest : rest.length ≤ sizeLine)
    (hq : codeAny (model prog w) A (.call (.ref fI) ⟨.ref (h.objs.size + 1) :: rest, kw⟩)
      (fun r s' => match r with | .ok (.ret v) => v = .none ∧ Q (.done (.ret (.ref (h.objs.size + 1)))) s' | .ok _ => False | .error e => E e s')
      ⟨(h.push (W.kdv_tup rest)).push (excO C h.objs.size), g, d, t, os⟩) :
    wpAny (model prog w) A (Builtin.«type.__call__» ⟨.ref C :: rest, kw⟩) Q E ⟨h, g, d, t, os⟩ := by
  repeat (first | with_reducible refine wpAny_loadPart_at hC ?_ | with_reducible refine wpAny_madeBy_exc hC ?_ | wp_step)
  refine codeAny_call_builtin_code (Code.quiet_builtin _ F.quiet) (newK_check F hT hC ?_)
  refine newK F hT hC ?_ hrest
  show wpAny _ _ _ _ _ _
  have k : ∀ b o, h.get? b = some o → ((h.push (W.kdv_tup rest)).push (excO C h.objs.size)).get? b = some o := fun b o e => Heap.get?_push_of_some _ (Heap.get?_push_of_some _ e)
  have hC₁ := k _ _ hC
  have hget : ((h.push (W.kdv_tup rest)).push (excO C h.objs.size)).get? (h.objs.size + 1) = some (excO C h.objs.size) := by heap_get
  have hcC : (Value.ref C :: bm).contains (.ref C) = true := by simp
  have i1 := hi.keeps k
  have b1 := (hb (.ref (h.objs.size + 1))).keeps k
  unfold isInstance
  repeat (first | with_reducible refine wpAny_loadPart_at hget ?_ | (with_reducible refine wpAny_isSubtype_exc hC₁ ?_; rw [hcC]) | wp_step)
  show wpAny _ _ (typeLookup (.ref C) _) _ _ _
  refine i1.at ?_
  refine wpAny_holding (wpAny_bind (b1.at ?_))
  refine wpAny_bind (wpAny_call (codeAny_mono hq fun r s' z => ?_))
  rcases r with e | (v | _ | _ | _) <;> first | exact z | exact z.elim | skip
  obtain ⟨rfl, z⟩ := z
  first
    | exact wpAny_pure (wpAny_pure z)
    | (wp_walk; exact z)
theorem callK (F : ExcBaseFacts B newId initId bmB) (hT : ∀ X : String, bm.contains (.type X) = bmB.contains (.type X)) {rest : List Value} {kw : List (Str × Value)} {fI : Addr}
    (hC : h.get? C = some (excClassObj nm q C N bs bm hdct sn sub ab col dd k0 k1 k2 k3 k5 newId))
    (hi : W.Looks (model prog w) h (typeLookup (.ref C) "__init__") (some (.ref fI))) (hb : ∀ self, W.Looks (model prog w) h (bindSpecial (.ref fI) self) (.ref fI, [self])) (hrest : rest.length ≤ sizeLine)
    (hq : codeAny (model prog w) (A.under (.builtin "type.__call__" ⟨.ref C :: rest, kw⟩)) (.call (.ref fI) ⟨.ref (h.objs.size + 1) :: rest, kw⟩) (W.InitBack (h.objs.size + 1) R)
      ⟨(h.push (W.kdv_tup rest)).push (excO C h.objs.size), g, d, t, os⟩) :
    codeAny (model prog w) A (.call (.ref C) ⟨rest, kw⟩) R ⟨h, g, d, t, os⟩ := by
  have f1 := tc_lookup
  have f2 := tc_bind (.ref C)
  have hTy : (⟨h, g, d, t, os⟩ : Shared).TypeIs (.ref C) "type" := ⟨_, hC, rfl⟩
  refine codeAny_of_tree ?_
  show wpAny _ _ (callAny (.ref C) _) _ _ _
  repeat (any_goals (first | assumption | with_reducible refine wpAny_loadPart_at hC ?_ | wp_step))
  refine ⟨rfl, ?_⟩
  refine codeAny_call_builtin_at (Code.quiet_builtin _ (by decide +kernel)) entry_typeCall (wpAny_check_type_call_sub hC (typeCallK F hT hC hi hb hrest ?_))
  refine codeAny_mono hq fun r s' z => ?_
  rcases r with e | (v | _ | _ | _) <;> exact z
end
end OwE
end PySem

/-! Ow.2: super().__init__(text) in an exception class over ValueError -/
namespace PySem
namespace OwE
abbrev bwV (x : Addr) : Obj := { cls := .type "method-wrapper", dict := none, data := .fields #[.builtin "ValueError.__init__", .ref x], slots := #[] }
theorem type_vi : typeOf (.builtin "ValueError.__init__") = pure (.type "wrapper_descriptor") := by show builtinType _ = _; rw [builtinType_eq_fast]; kernel_rfl
theorem nac_vi : (kfb_private% "nameAndClass") (Value.builtin "ValueError.__init__") = (pure (("__init__" : Str), Value.type "ValueError") : Sem (Str × Value)) := by kernel_rfl
section
open PySem.W
variable {prog : Program} {w : World} {M : Model} {A : Around} {E : Value → Shared → Prop} {h : Heap} {g : Array GenState} {d : Drawn} {t : Nat} {os : OsState}
theorem wd_run {x C : Addr} {P : Fin → Shared → Prop} (hin : W.Looks M h (isInstance (.ref x) (.type "ValueError")) true) (hq : P (.done (.ret (.ref h.objs.size))) ⟨h.push (bwV x), g, d, t, os⟩) :
    wpAny M A (Builtin.«wrapper_descriptor.__get__» ⟨[.builtin "ValueError.__init__", .ref x, .ref C], []⟩) P E ⟨h, g, d, t, os⟩ := by
  unfold Builtin.«wrapper_descriptor.__get__»
  refine wpAny_bind (wpAny_of_eq (a := (.builtin "ValueError.__init__", some (.ref x), some (.ref C))) (by first | rfl | kernel_rfl) ?_)
  show wpAny M A ((kfb_private% "checkInstance") (.builtin "ValueError.__init__") (.ref x) >>= fun _ => newFields "method-wrapper" [.builtin "ValueError.__init__", .ref x] >>= fun r => ret r) P E _
  refine wpAny_bind ?_
  show wpAny M A ((kfb_private% "nameAndClass") (.builtin "ValueError.__init__") >>= _) _ E _
  refine wpAny_bind (wpAny_of_eq nac_vi ?_)
  show wpAny M A (isInstance (.ref x) (.type "ValueError") >>= _) _ E _
  refine wpAny_bind (hin.at ?_)
  refine KFB.if_not rfl ?_
  refine wpAny_pure ?_
  exact wpAny_bind (wpAny_newObj_type (wpAny_pure hq))
theorem sup_ga {so D x C : Addr} {l₀ l : List Value} {K : Frag} {name : Str} {tk : Tok} {Q : Fin → Shared → Prop}
    (hso : h.get? so = some { cls := .type "super", dict := none, data := .fields #[.ref D, .ref x, .ref C], slots := #[] }) (hno : W.Looks (model prog w) h (opaqueClassAbove (.ref C)) none)
    (hC : W.Looks (model prog w) h (mroOf (.ref C)) l₀) (hl : (l₀.dropWhile (· != .ref D)).drop 1 = l) (X : K.In h)
    (hf : alongIn K name l = some (some (.builtin "ValueError.__init__"))) (hxC : x ≠ C) (hn : (name == ("__class__" : Str)) = false) (hin : W.Looks (model prog w) h (isInstance (.ref x) (.type "ValueError")) true)
    (hq : Q (.done (.ret (.ref h.objs.size))) ⟨h.push (bwV x), g, d, t, os⟩) :
    wpAny (model prog w) A (Builtin.«super.__getattribute__» ⟨[.ref so, .str name tk], []⟩) Q E ⟨h, g, d, t, os⟩ := by
  have hlk := ESX.slot_wd.lookup
  have hne : (Value.ref x == Value.ref C) = false := by simp [hxC]
  have hTf := type_vi
  have hTi : Shared.TypeIs ⟨h, g, d, t, os⟩ (.builtin "ValueError.__init__") "wrapper_descriptor" := type_vi
  have hdt : ({ cls := .type "super", dict := none, data := .fields #[.ref D, .ref x, .ref C], slots := #[] } : Obj).data = .fields #[.ref D, .ref x, .ref C] := rfl
  have f0 : (#[.ref D, .ref x, .ref C] : Array Value)[0]? = some (.ref D) := rfl
  have f1 : (#[.ref D, .ref x, .ref C] : Array Value)[1]? = some (.ref x) := rfl
  have f2 : (#[.ref D, .ref x, .ref C] : Array Value)[2]? = some (.ref C) := rfl
  unfold Builtin.«super.__getattribute__»
  repeat (first
    | (with_reducible refine wpAny_field hso hdt f0 ?_) | (with_reducible refine wpAny_field hso hdt f1 ?_) | (with_reducible refine wpAny_field hso hdt f2 ?_)
    | (with_reducible refine ks_wpAny_notOpaque hno ?_)
    | (with_reducible refine Looks.at hC ?_; rw [hl])
    | (refine ks_forIn_along X (fun _ _ => rfl) rfl ?_ hf)
    | (with_reducible refine wpAny_call_entry ESX.slot_wd hTi ESX.entry_wd ?_ (ESX.args_wd _ _ _))
    | (with_reducible refine wd_run hin ?_)
    | (with_reducible refine ⟨_, rfl, ?_⟩)
    | (simp only [hn, hne, Bool.or_false, Bool.false_eq_true, if_false])
    | wp_step
    | dsimp only)
  all_goals exact hq
theorem sup_method {so D x C : Addr} {l₀ l : List Value} {K : Frag} {name : Str} {pl : Sem Bool} {Q : Value × List Value → Shared → Prop}
    (hso : h.get? so = some { cls := .type "super", dict := none, data := .fields #[.ref D, .ref x, .ref C], slots := #[] }) (hno : W.Looks (model prog w) h (opaqueClassAbove (.ref C)) none)
    (hC : W.Looks (model prog w) h (mroOf (.ref C)) l₀) (hl : (l₀.dropWhile (· != .ref D)).drop 1 = l) (X : K.In h)
    (hf : alongIn K name l = some (some (.builtin "ValueError.__init__"))) (hxC : x ≠ C) (hn : (name == ("__class__" : Str)) = false) (hin : W.Looks (model prog w) h (isInstance (.ref x) (.type "ValueError")) true)
    (hq : Q (.ref h.objs.size, []) ⟨h.push (bwV x), g, d, t + 1, os⟩) :
    wpAny (model prog w) A (getMethod (.ref so) name pl) Q E ⟨h, g, d, t, os⟩ := by
  have hlk := F.ks_slot_super_ga.lookup
  have hcan := F.ks_canon_super_ga
  have hT : ∀ t', (⟨h, g, d, t', os⟩ : Shared).TypeIs (.ref so) "super" := fun _ => ⟨_, hso, rfl⟩
  unfold getMethod
  refine wpAny_bind (wpAny_specialOf (hT _) hlk ?_)
  show wpAny _ _ (if (Manifest.canonical "super.__getattribute__" != "object.__getattribute__") = true then _ else _) _ _ _
  rw [if_pos hcan]
  unfold getAttr getAttrBy
  refine wpAny_bind (wpAny_bind (wpAny_mkText (wpAny_holding (wpAny_bind (wpAny_typeOf (hT _) (wpAny_bind (wpAny_of_eq hlk ?_)))))))
  show wpAny _ _ (getAttrByItsOwn (.ref so) (.str name t) (.type "super") (.builtin "super.__getattribute__") true false) _ _ _
  unfold getAttrByItsOwn hookBefore callGetattribute boundAndCalled
  refine wpAny_bind (wpAny_of_eq (show (if onTheHeap (.type "super") then typeLookup (.type "super") "__getattr__" else pure none) = pure none from rfl) ?_)
  refine wpAny_bind (wpAny_attempt (wpAny_holding ?_))
  show wpAny _ _ (bindSpecial (.builtin "super.__getattribute__") (.ref so) >>= _) _ _ _
  refine wpAny_bind (wpAny_of_eq (F.ks_slot_super_ga.bind _) ?_)
  refine wpAny_mono (Q := fun v s' => v = .ref h.objs.size ∧ s' = ⟨h.push (bwV x), g, d, t + 1, os⟩) (E := fun _ _ => False)
    (wpAny_call_entry F.ks_slot_super_ga (hT _) F.ks_entry_super_ga (sup_ga hso hno hC hl X hf hxC hn hin ⟨_, rfl, rfl, rfl⟩) (F.ks_gaArgs_super _ _)) (fun v s' hv => ?_) fun _ _ z => z.elim
  obtain ⟨rfl, rfl⟩ := hv
  exact wpAny_pure (wpAny_pure hq)
end
section
open PySem.W PySem.Calls
variable {prog : Program} {w : World} {M : Model} {A : Around} {E : Value → Shared → Prop} {s : Shared}
theorem bwV_callWith {pos : Pos} {u x : Addr} {first : List Value} {args : List (Bool × Sem Value)} {Q : Value → Shared → Prop} (hplain : args.any (·.1) = false)
    (h : wpAny M A (evalArgs (.ref u) true args []) (fun a s₁ => s₁.heap.get? u = some (bwV x) ∧ wpAny M A (call (.ref u) (first ++ a.pos) a.kw) Q E s₁) E s) : wpAny M A (callWith pos (.ref u) first args []) Q E s := by
  unfold callWith
  refine wpAny_bind (wpAny_holding (wpAny_mono h (fun a s₁ h₁ => wpAny_bind (wpAny_standAt ?_)) fun _ _ x => x))
  obtain ⟨ho, hcall⟩ := h₁
  simp only [hplain, List.any_nil, Bool.or_false]
  refine wpAny_bind (m := keeperOf (.ref u)) ?_
  unfold keeperOf
  refine wpAny_bind (wpAny_load ho ?_)
  simp only [bwV, show (Value.type "method-wrapper" != Value.type "method") = true by decide, show (Value.type "method-wrapper" == Value.type "builtin_function_or_method" || Value.type "method-wrapper" == Value.type "method-wrapper") = true by decide, if_true]
  refine wpAny_pure ?_
  exact wpAny_bind (wpAny_mono hcall (fun r s₂ hr => wpAny_bind (wpAny_holding (wpAny_point (wpAny_pure hr)))) fun _ _ x => x)
theorem bwV_args {pos : Pos} {u x : Addr} {first : List Value} {env : Env} {e : Expr} {rest : List Expr} {Q : Value → Shared → Prop}
    (h : wpAny M A (spliced (backTo pos (starEach (e :: rest) env))) (fun vs s₁ => s₁.heap.get? u = some (bwV x) ∧ wpAny M A (call (.ref u) (first ++ vs)) Q E s₁) E s)
    (he : starEach (e :: rest) env = (false, eval e env) :: starEach rest env := by rfl) (hplain : (backTo pos (starEach rest env)).any (·.1) = false := by rfl) :
    wpAny M A (callWith pos (.ref u) first (backTo pos (starEach (e :: rest) env)) []) Q E s := by
  rw [he] at h ⊢
  refine bwV_callWith (x := x) (by show (false || (backTo pos (starEach rest env)).any (·.1)) = false; rw [hplain]; rfl) ?_
  exact evalArgs_plain h
end
section
variable {prog : Program} {w : World} {A : Around} {E : Value → Shared → Prop} {h : Heap} {g : Array GenState} {d : Drawn} {t : Nat} {os : OsState}
variable {nm q : Str} {C N : Addr} {bs bm : List Value} {hdct : Bool} {sn : List Str} {sub : List Value} {ab : Bool} {col : Option Bool} {dd : Option Addr} {k0 k1 k2 k3 k5 : Option Value}
theorem bwV_call {u e t0 : Addr} {rest : List Value} {Q : Value → Shared → Prop}
    (hC : h.get? C = some (excClassObj nm q C N bs bm hdct sn sub ab col dd k0 k1 k2 k3 k5 "ValueError.__new__")) (he : h.get? e = some (HandSPX.excO C t0)) (hu : h.get? u = some (bwV e)) (hrest : rest.length ≤ sizeLine)
    (hq : ∀ h' t1, (∀ b o, b ≠ e → h.get? b = some o → h'.get? b = some o) → h'.get? e = some (HandSPX.excO C t1) → Q .none ⟨h', g, d, t, os⟩) :
    wpAny (model prog w) A (call (.ref u) rest) Q E ⟨h, g, d, t, os⟩ := by
  refine wpAny_call (codeAny_of_tree ?_)
  show wpAny _ A.in1 (callAny (.ref u) ⟨rest, []⟩) _ _ _
  simp only [callAny]
  refine wpAny_bind (wpAny_load hu ?_)
  simp only [bwV, show (Value.type "method-wrapper" == Value.type "method" || Value.type "method-wrapper" == Value.type "builtin_function_or_method" || Value.type "method-wrapper" == Value.type "method-wrapper") = true by decide, if_true]
  refine W.KFB.if_so (by decide) ?_
  refine wpAny_bind (ESX.check_bound F.excBase_ValueError hC he rfl ?_)
  refine wpAny_bind (wpAny_pure (wpAny_pure ?_))
  refine ⟨Code.quiet_builtin _ (by decide +kernel), codeAny_builtin F.excBase_ValueError.initEntry ?_⟩
  rw [Around.under_plainId F.excBase_ValueError.init.plain _]
  wp_walk
  refine hq _ h.objs.size (fun b o hb ho => ?_) ?_
  · rw [Heap.get?_update_other _ _ (Ne.symm hb)]
    exact Heap.get?_push_of_some _ ho
  · rw [Heap.get?_update_self _ (Heap.get?_push_of_some _ he) rfl]
    rfl
end
end OwE
end PySem

/-! Ow.3: __init__ of an exception class of the text keeps its promise -/
namespace Ow
open PySem PySem.Spec L2 NdefX
/-- what the written part says of an exception class and its __init__ F, which stands at f -/
structure ExK (P : Program) (K : PySem.W.Frag) (mg : Str → Option Value) (C f : Addr) (F : NF) : Prop where
  oex : OexC K C
  ini : PySem.W.findIn K (.ref C) "__init__" = some (some (.ref f))
  fun_ : ∃ (od : Option Addr) (sl : Array (Option Value)) (kV doc pm ctv : Value) (an : Option Addr), K.lookup f = some (⟨.type "function", od, .func (PySem.W.fnX F.name F.qual F.params F.body F.scope F.cl .none kV doc pm an (.ref F.c) ctv), sl⟩ : Obj)
  code : ∃ (oc : Value) (od : Option Addr) (vs : Array Value) (sl : Array (Option Value)) (file : Str) (tf : Tok), K.lookup F.c = some (⟨oc, od, .fields vs, sl⟩ : Obj) ∧ vs[2]? = some (.str file tf) ∧ ((P.main.file : Str) == file) = true
  cdq : PySem.W.codeIn K (.ref F.c) F.qual = true
  cell : ∃ (cc : Addr) (oc : Value) (od : Option Addr) (sl : Array (Option Value)), F.cl = [((("__class__" : Str)), cc)] ∧ K.lookup cc = some (⟨oc, od, .cell (some (.ref C)), sl⟩ : Obj)
  along : ∀ cd, PySem.W.clsIn K C = some cd → PySem.W.alongIn K "__init__" ((cd.mro.dropWhile (· != .ref C)).drop 1) = some (some (.builtin "ValueError.__init__"))
  self : PySem.W.mroIn K C (.ref C) = some true
  subV : PySem.W.subIn K (.ref C) (.type "ValueError") = some true
  opq : PySem.W.nsIn K cStatics "thirdparty.any" = some none
  sup : mg "super" = none
section
variable {X : Cx} {pins : List (Addr × Obj)} {σ : St} {H : Hp} {s : Shared} {a C f : Addr} {F : NF}
theorem exo_ne_cls {h : Heap} (hX : X.K.In h) (T : OexC X.K C) {t1 : Addr} {d : Option Addr} (he : h.get? a = some ({ cls := .ref C, dict := d, data := .fields #[.ref t1, .none, .none, .none, .bool false, .none] } : Obj)) : a ≠ C := by
  obtain ⟨nm, q, N, bs, bm, sn, sub, ab, col, dd, k0, k1, k2, k3, k5, hC, hbm⟩ := T.cls
  intro z
  have e := hX _ _ hC
  rw [← z, he] at e
  cases e
/-- super().__init__(TEXT) -/
theorem super_init {body : List Stmt} {p0 p1 p2 p3 p4 p5 : Pos} {txt : Str} {j : Nat} {ar : Arg} {L : Addr} (T : ExK X.prog X.K X.mg C f F) (I : Inv X pins σ H s) (ea : H a = some (exo a C none))
    (henv : X.env = envF F f L) (hself : σ[0]? = some (some (.ref a))) (hN0 : X.N[0]? = some ar.arg)
    (hks : F.scope.names.lookup ("super" : Str) = some .globalImplicit) (hkc : F.scope.names.lookup ("__class__" : Str) = some .free) (hka : F.scope.names.lookup ar.arg = some .local)
    (hp : (F.params.posonlyargs ++ F.params.args).head? = some ar) (htop : (X.prog.main.scope.names.lookup ("super" : Str)).isSome = false)
    (hint : interactive X.env = false) {pl : Sem Bool}
    (hev : eval (.Call (.Attribute (.Call (.Name "super" p0) [] [] p1) "__init__" p2) [.Constant (.str txt) j p3] [] p4) X.env = (do
      let ov ← attributeBase (.Call (.Name "super" p0) [] [] p1) "__init__" X.env (eval (.Call (.Name "super" p0) [] [] p1) X.env)
      standAt p2.atName
      let (fn, first) ← holding [ov] (getMethod ov "__init__" pl)
      callWith p4 fn first (backTo p4 (starEach [.Constant (.str txt) j p3] X.env)) []))
    {Q : Flow → Shared → Prop} {E : Value → Shared → Prop} (hq : ∀ s', Inv X pins σ H s' → Q .next s') :
    PySem.wpAt (model X.prog X.w) X.A (.func body X.env) (exec (.Expr (.Call (.Attribute (.Call (.Name "super" p0) [] [] p1) "__init__" p2) [.Constant (.str txt) j p3] [] p4) p5) X.env) Q E s := by
  refine PySem.ks_wpAt_Expr_any ?_ hint (by rfl)
  refine PySem.ks_wpAt_MethodCall (pl := pl) ?_ hev
  obtain ⟨odf, slf, kV, doc, pm, ctv, an, hf⟩ := T.fun_
  obtain ⟨occ, odc, vsc, slc, file, tf, hcode, hvs, hfile⟩ := T.code
  obtain ⟨cc, ocl, odl, sll, hcl, hcell⟩ := T.cell
  obtain ⟨nm, q, N, bs, bm, sn, sub, ab, col, dd, k0, k1, k2, k3, k5, hC, hbm⟩ := T.oex.cls
  have hcd : PySem.W.clsIn X.K C = some { name := nm, bases := bs, mro := .ref C :: bm, ns := N, qualname := q, hasDict := true, slotNames := sn, subclasses := sub, abstract := ab, collection := col, hasDel := false } := by unfold PySem.W.clsIn; rw [hC] <;> rfl
  have hkS : X.env.kindOf ("super" : Str) = some .globalImplicit := by rw [henv]; exact hks
  have hkC : X.env.kindOf ("__class__" : Str) = some .free := by rw [henv]; exact hkc
  have hkA : X.env.kindOf ar.arg = some .local := by rw [henv]; exact hka
  have hcells : X.env.cells.lookup ("__class__" : Str) = some cc := by
    rw [henv]
    show F.cl.lookup ("__class__" : Str) = some cc
    rw [hcl]
    rfl
  obtain ⟨mb, hb1, hb2⟩ := I.mod.blt
  obtain ⟨m, hns, hl⟩ := id I.loc
  obtain ⟨u, ru, hlook⟩ := hl 0 ar.arg (.ref a) hN0 hself (.inl (by rw [henv]; exact hka))
  obtain rfl : u = Value.ref a := ru
  have hm : m ar.arg = some (.ref a) := by
    rcases hlook with ⟨_, e⟩ | ⟨k, _⟩
    · exact e
    · rw [hkA] at k
      rcases k with k | k <;> cases k
  obtain ⟨t1, hget⟩ := exo_at I.hok ea
  have KI := I.kIn
  have hCg := KI _ _ hC
  have haC : a ≠ C := exo_ne_cls KI T.oex hget
  refine PySem.ks_wpAt_super_base (env := X.env) hkS hkC (by decide) (by rw [henv]) (KI _ _ hf) rfl hp (by rw [henv]) (KI _ _ hcode) rfl hvs hfile htop ?_
  refine PySem.W.ks_loadName_global I.ok.kind hkS (Calls.loadGlobal_builtin (by rw [I.ok.glob]; exact I.mod.glob.keeps I.bk) T.sup (by rw [I.ok.blt]; exact hb1.keeps I.bk) ((hb2 _ (by decide)).trans (by decide +kernel)) ⟨rfl, ?_⟩)
  refine wpAny_loadName_free I.ok.kind hkC hcells ⟨_, KI _ _ hcell, rfl⟩ ?_
  refine wpAny_loadName_local I.ok.kind hkA hns hm ?_
  refine ks_wpAny_isType_cls hCg rfl ⟨rfl, ?_⟩
  obtain ⟨hp', g, d, t, os⟩ := s
  have hIn : PySem.W.InstAt hp' a ({ cls := .ref C, dict := none, data := .fields #[.ref t1, .none, .none, .none, .bool false, .none] } : Obj) C none := ⟨hget, rfl, rfl, trivial⟩
  refine ks_wpAny_call_super hCg rfl hget rfl (fun c e => nomatch e) (PySem.W.looks_mroIn KI T.self) (fun h1 e1 k1' => ?_)
  have I1 := I.kept (h' := h1) (t' := t) k1'
  have K1 := I1.kIn
  have hin : PySem.W.Looks (model X.prog X.w) h1 (isInstance (.ref a) (.type "ValueError")) true := (PySem.W.InstAt.type (od := none) ⟨k1' _ _ hget, rfl, rfl, trivial⟩).andThen (PySem.W.looks_subIn K1 T.subV)
  have hmro : PySem.W.Looks (model X.prog X.w) h1 (mroOf (.ref C)) (.ref C :: bm) := (PySem.W.looks_clsIn K1 hcd).andThen .now
  refine PySem.OwE.sup_method e1 (PySem.W.looks_opaque K1 T.opq) hmro rfl K1 (T.along _ hcd) haC (by decide) hin ?_
  have k2' : ∀ b o, h1.get? b = some o → (h1.push (PySem.OwE.bwV a)).get? b = some o := fun b o e => Heap.get?_push_of_some _ e
  have I2 := I1.kept (h' := h1.push (PySem.OwE.bwV a)) (t' := t + 1) k2'
  have hu2 : (h1.push (PySem.OwE.bwV a)).get? h1.objs.size = some (PySem.OwE.bwV a) := Heap.get?_push_at rfl rfl
  show wpAny _ _ (callWith p4 (.ref h1.objs.size) [] (backTo p4 (starEach [Expr.Constant (.str txt) j p3] X.env)) []) _ _ _
  refine PySem.OwE.bwV_args (x := a) ?_
  have hH0 : H h1.objs.size = none := I1.hok.fresh (Nat.le_refl _)
  have I2p : Inv X ((h1.objs.size, PySem.OwE.bwV a) :: pins) σ H ⟨h1.push (PySem.OwE.bwV a), g, d, t + 1, os⟩ := I2.pins_of fun p hp => by
    rcases List.mem_cons.mp hp with rfl | hp
    · exact ⟨hu2, hH0, Ne.symm (Nat.ne_of_lt I1.lt), I1.nofs (Nat.le_refl _), fun v e => nomatch e⟩
    · exact I2.pin p (List.mem_append_right _ hp)
  refine thn ((pa_cons (X := X) (pe_str (x := txt) (j := j) (pos := p3)) pa_nil).run p4 ((h1.objs.size, PySem.OwE.bwV a) :: pins) _ σ H (fun vs H1 => vs.length = 1 ∧ H1 = H) I2p ⟨rfl, rfl⟩) fun us s1 ⟨vs, H1, I3, r3, hlen, hH⟩ => ?_
  subst hH
  obtain ⟨hu3, _⟩ := I3.pin (h1.objs.size, PySem.OwE.bwV a) (List.mem_append_right _ List.mem_cons_self)
  refine ⟨hu3, ?_⟩
  obtain ⟨t2, hget3⟩ := exo_at I3.hok ea
  have J3 : Inv X pins σ H1 s1 := I3.pins_of fun p hp => I3.pin p (List.mem_append_right _ (List.mem_cons_of_mem _ hp))
  obtain ⟨h3, g3, d3, t3, os3⟩ := s1
  show wpAny _ _ (call (.ref h1.objs.size) us) _ _ _
  refine PySem.OwE.bwV_call (I3.kIn _ _ hC) hget3 hu3 (by rw [← r3.length, hlen, sizeLine_eq]; omega) fun h4 t4 k4 hx4 => ?_
  have J := J3.write (t' := t3) (x := a) (e := a) (o := exo a C none) (by rw [ea]; exact True.intro) (.inl rfl) k4 ⟨_, hx4⟩ (exo_ok hx4)
  have eu : upd H1 a (exo a C none) = H1 := by
    funext b
    by_cases hb : b = a
    · rw [hb, upd_same, ea]
    · rw [upd_ne hb]
  rw [eu] at J
  exact hq _ J
end
end Ow

/-! Ow.4: __init__ of an exception class of the text keeps its promise -/
namespace Ow
open PySem PySem.Spec L2 NdefX
/-- self.f = f for each f -/
inductive IsAsg : List Stmt → List Str → Prop
  | nil : IsAsg [] []
  | cons {f : Str} {fs : List Str} {q0 q1 q2 q3 : Pos} {r : List Stmt} : IsAsg r fs → IsAsg (.Assign [.Attribute (.Name "self" q0) f q1] (.Name f q2) q3 :: r) (f :: fs)
def tFlds (K : PySem.W.Frag) : List (Str × Nat) → TS
  | [] => fun D σ H => D.nx σ H
  | (f, i) :: r => tSeq (tOst K f (tVar 0) (tVar i)) (tFlds K r)
theorem pss_flds {X : Cx} (h0 : X.N[0]? = some ("self" : Str)) (v0 : Vis X.env.scope "self") : ∀ {r : List Stmt} {fs : List Str}, IsAsg r fs → ∀ l : List (Str × Nat), l.map (·.1) = fs → (∀ p ∈ l, X.N[p.2]? = some p.1 ∧ Vis X.env.scope p.1 ∧ (p.1 == ("__debug__" : Str)) = false ∧ (p.1 == ("__classdict__" : Str)) = false) → PSs X r (tFlds X.K l)
  | _, _, .nil, [], _, _ => pss_nil
  | _, _, .nil, _ :: _, e, _ => by cases e
  | _, _, .cons _, [], e, _ => by cases e
  | _, _, .cons (f := f) a, (g, i) :: l, e, h => by
    obtain ⟨e1, e2⟩ := List.cons.inj e
    have e1 : g = f := e1
    subst e1
    obtain ⟨h1, h2, h3, h4⟩ := h (g, i) List.mem_cons_self
    exact pss_cons (ps_ost (pe_var h0 v0) (pe_var h1 h2 h3 h4)) (pss_flds h0 v0 a l e2 fun p hp => h p (List.mem_cons_of_mem _ hp))
/-- further fields -/
theorem flds_more {K : PySem.W.Frag} {C a dx : Addr} (T : OexC K C) {σ : St} (h0 : σ[0]? = some (some (.ref a))) {D : Ends} : ∀ (l : List (Str × Nat)) (ws : List V) (done : List (Str × V)) (H : Hp), l.length = ws.length → (∀ (j : Nat) (p : Str × Nat) (w : V), l[j]? = some p → ws[j]? = some w → σ[p.2]? = some (some w)) →
    (∀ p ∈ l, PySem.W.findIn K (.ref C) p.1 = some none) → done.length + l.length ≤ 900 → H a = some (exo a C (some dx)) → H dx = some (exd dx done) → a ≠ dx → D.nx σ (upd H dx (exd dx (((l.map (·.1)).zip ws).reverse ++ done))) → tFlds K l D σ H
  | [], [], done, H, _, _, _, _, _, hd, _, q => by
    have e : upd H dx (exd dx done) = H := by
      funext b
      by_cases hb : b = dx
      · rw [hb, upd_same, hd]
      · rw [upd_ne hb]
    have q : D.nx σ (upd H dx (exd dx done)) := q
    rw [e] at q
    exact q
  | [], _ :: _, _, _, e, _, _, _, _, _, _, _ => by cases e
  | _ :: _, [], _, _, e, _, _, _, _, _, _, _ => by cases e
  | (f, i) :: l, w :: ws, done, H, e, hs, hn, hl, ha, hd, ne, q => by
    refine ⟨w, hs 0 (f, i) w rfl rfl, .ref a, h0, a, C, rfl, T, hn (f, i) List.mem_cons_self, .inr ⟨dx, done, ha, hd, ?_, ?_⟩⟩
    · simp only [List.length_cons] at hl
      omega
    · refine flds_more T h0 l ws ((f, w) :: done) _ (Nat.succ.inj e) (fun j p v h1 h2 => hs (j + 1) p v h1 h2) (fun p hp => hn p (List.mem_cons_of_mem _ hp)) ?_ ?_ upd_same ne ?_
      · simp only [List.length_cons] at hl ⊢
        omega
      · rw [upd_ne ne]
        exact ha
      · rw [upd_upd]
        have eq : ((((f, i) :: l).map (·.1)).zip (w :: ws)).reverse ++ done = ((l.map (·.1)).zip ws).reverse ++ (f, w) :: done := by
          rw [List.map_cons, List.zip_cons_cons, List.reverse_cons, List.append_assoc]
          rfl
        rw [eq] at q
        exact q
/-- all fields, from none -/
theorem flds_all {K : PySem.W.Frag} {C a : Addr} (T : OexC K C) {σ : St} (h0 : σ[0]? = some (some (.ref a))) {D : Ends} (l : List (Str × Nat)) (ws : List V) (H : Hp) (e : l.length = ws.length) (hs : ∀ (j : Nat) (p : Str × Nat) (w : V), l[j]? = some p → ws[j]? = some w → σ[p.2]? = some (some w))
    (hn : ∀ p ∈ l, PySem.W.findIn K (.ref C) p.1 = some none) (hl : l.length ≤ 800) (ha : H a = some (exo a C none)) (q0 : l = [] → D.nx σ H)
    (q : l ≠ [] → ∀ dx, H dx = none → dx ≠ a → D.nx σ (upd (upd H dx (exd dx ((l.map (·.1)).zip ws).reverse)) a (exo a C (some dx)))) : tFlds K l D σ H := by
  cases l with
  | nil => exact q0 rfl
  | cons p l =>
    obtain ⟨f, i⟩ := p
    cases ws with
    | nil => cases e
    | cons w ws =>
      refine ⟨w, hs 0 (f, i) w rfl rfl, .ref a, h0, a, C, rfl, T, hn (f, i) List.mem_cons_self, .inl ⟨ha, fun dx hdx ne => ?_⟩⟩
      refine flds_more (dx := dx) T h0 l ws [(f, w)] _ (Nat.succ.inj e) (fun j p v h1 h2 => hs (j + 1) p v h1 h2) (fun p hp => hn p (List.mem_cons_of_mem _ hp)) ?_ upd_same ?_ (Ne.symm ne) ?_
      · simp only [List.length_cons, List.length_nil] at hl ⊢
        omega
      · rw [upd_ne ne, upd_same]
      · have z := q (by simp) dx hdx ne
        have e1 : upd (upd (upd H dx (exd dx [(f, w)])) a (exo a C (some dx))) dx (exd dx (((l.map (·.1)).zip ws).reverse ++ [(f, w)])) = upd (upd H dx (exd dx ((((f, i) :: l).map (·.1)).zip (w :: ws)).reverse)) a (exo a C (some dx)) := by
          have e2 : ((((f, i) :: l).map (·.1)).zip (w :: ws)).reverse = ((l.map (·.1)).zip ws).reverse ++ [(f, w)] := by
            rw [List.map_cons, List.zip_cons_cons, List.reverse_cons]
          rw [e2]
          funext b
          by_cases hb : b = a
          · rw [hb, upd_ne (Ne.symm ne), upd_same, upd_same]
          · by_cases hd : b = dx
            · rw [hd, upd_same, upd_ne ne, upd_same]
            · rw [upd_ne hd, upd_ne hb, upd_ne hd, upd_ne hb, upd_ne hd]
        rw [e1]
        exact z
abbrev psOf (fs : List Str) : List Str := ("self" : Str) :: fs
abbrev clsN : List Str := [("__class__" : Str)]
abbrev nsOf (fs : List Str) : List Str := ("self" : Str) :: (fs ++ clsN)
/-- the promise of such an __init__ -/
def spIni (C : Addr) (fs : List Str) : Sp := fun vs H Q _ => ∃ (a : Addr) (ws : List V), vs = .ref a :: ws ∧ ws.length = fs.length ∧ H a = some (exo a C none) ∧ (fs = [] → Q .non H) ∧
  (fs ≠ [] → ∀ dx, H dx = none → dx ≠ a → Q .non (upd (upd H dx (exd dx (fs.zip ws).reverse)) a (exo a C (some dx))))
/-- how the body reads: positions left open -/
structure IniBody (P : Program) (F : NF) (fs : List Str) : Prop where
  sc : NScope (nsOf fs) (psOf fs) clsN F.scope
  sup : F.scope.names.lookup ("super" : Str) = some .globalImplicit
  top : (P.main.scope.names.lookup ("super" : Str)).isSome = false
  par : ∃ ar : Arg, (F.params.posonlyargs ++ F.params.args).head? = some ar ∧ ar.arg = "self"
  dbg : ∀ f ∈ fs, (f == ("__debug__" : Str)) = false ∧ (f == ("__classdict__" : Str)) = false
  int : ∀ f L, interactive (envF F f L) = false
  body : ∃ (p0 p1 p2 p3 p4 p5 : Pos) (txt : Str) (j : Nat) (rest : List Stmt), F.body = .Expr (.Call (.Attribute (.Call (.Name "super" p0) [] [] p1) "__init__" p2) [.Constant (.str txt) j p3] [] p4) p5 :: rest ∧ IsAsg rest fs ∧
    ∀ f L, eval (.Call (.Attribute (.Call (.Name "super" p0) [] [] p1) "__init__" p2) [.Constant (.str txt) j p3] [] p4) (envF F f L) = (do
      let ov ← attributeBase (.Call (.Name "super" p0) [] [] p1) "__init__" (envF F f L) (eval (.Call (.Name "super" p0) [] [] p1) (envF F f L))
      standAt p2.atName
      let (fn, first) ← holding [ov] (getMethod ov "__init__" (plainOf (.Call (.Name "super" p0) [] [] p1) (envF F f L)))
      callWith p4 fn first (backTo p4 (starEach [.Constant (.str txt) j p3] (envF F f L))) [])
theorem ini_ok {P : Program} {w : World} {K : PySem.W.Frag} {mg : Str → Option Value} {base : Heap} {C f : Addr} {F : NF} {fs : List Str} {kV doc pm ctv : Value} {an : Option Addr} (T : ExK P K mg C f F) (B : IniBody P F fs) (hno : ∀ x ∈ fs, PySem.W.findIn K (.ref C) x = some none) (hfs : fs.length ≤ 700)
    (lk : ∃ (od : Option Addr) (sl : Array (Option Value)), K.lookup f = some (⟨.type "function", od, .func (PySem.W.fnX F.name F.qual F.params F.body F.scope F.cl .none kV doc pm an (.ref F.c) ctv), sl⟩ : Obj)) :
    FnOk P w K mg base CX0 1 f (PySem.W.fnX F.name F.qual F.params F.body F.scope F.cl .none kV doc pm an (.ref F.c) ctv) (psOf fs) (spIni C fs) := by
  have len : ∀ vs H Q E, spIni C fs vs H Q E → vs.length = (psOf fs).length := fun vs H Q E h => by
    obtain ⟨a, ws, rfl, hl, _⟩ := h
    rw [List.length_cons, List.length_cons, hl]
  refine ⟨len, fun A outer s H args us vs Q E hr e0 hb r hsp => ?_⟩
  have hl := len _ _ _ _ hsp
  obtain ⟨a, ws, rfl, hw, ha, q0, q1⟩ := hsp
  have bk : ∀ b o, base.get? b = some o → s.heap.get? b = some o := fun b o e => (e0.bs b o e).1
  have KI : K.In s.heap := e0.mod.kin.keeps bk
  have lim : s.heap.NoLimit := e0.mod.nolimit.keeps bk
  obtain ⟨od, sl, lk⟩ := lk
  obtain ⟨cc, ocl, odl, sll, hcl, hcell⟩ := T.cell
  obtain ⟨p0, p1, p2, p3, p4, p5, txt, j, rest, hbody, has, hev⟩ := B.body
  obtain ⟨ar, hpar, har⟩ := B.par
  have S := B.sc
  refine PySem.ks_codeAny_call_defAt hr.depth (KI _ _ lk) rfl lim (PySem.W.codeRec_of KI T.cdq) rfl hb S.nocell (fun ⟨n, v⟩ hy => S.par n (List.of_mem_zip hy).1) (fun h₁ hns kp => ?_) S.co S.gen S.kind
  have hcc : H cc = none ∧ s.heap.get? cc = some (⟨ocl, odl, .cell (some (.ref C)), sll⟩ : Obj) := ⟨(e0.bs cc _ (e0.mod.kin _ _ hcell)).2, KI _ _ hcell⟩
  have CA : CellsAt F.cl clsN [some (.ref C)] s.heap H := by
    rw [hcl]
    refine ⟨rfl, fun y c e => ?_, fun x y c e1 e2 => ?_, fun i y e => ?_⟩
    · have e' := PySem.mem_of_lookup e
      rcases List.mem_singleton.mp e' with z
      obtain ⟨_, rfl⟩ := Prod.mk.inj z
      exact ⟨hcc.1, _, _, hcc.2, rfl⟩
    · obtain ⟨z1, _⟩ := Prod.mk.inj (List.mem_singleton.mp (PySem.mem_of_lookup e1))
      obtain ⟨z2, _⟩ := Prod.mk.inj (List.mem_singleton.mp (PySem.mem_of_lookup e2))
      exact z1.trans z2.symm
    · cases i with
      | succ i => simp at e
      | zero =>
        have e2 : y = ("__class__" : Str) := by simpa using e.symm
        subst e2
        refine ⟨cc, rfl, fun v hv => ?_⟩
        have e3 : v = .ref C := by simpa using hv.symm
        subst e3
        exact ⟨.ref C, rfl, _, hcc.2, rfl⟩
  have I : Inv (ncx CX0 P w K mg base (nsOf fs) F f A outer s H E) [] (startF (nsOf fs) (.ref a :: ws) [some (.ref C)]) H { s with heap := h₁, toks := s.toks + (List.zip (psOf fs) us).length } := inv_startN S hr.hd e0 hl r CA hns kp
  have hX0 : (nsOf fs)[0]? = some ("self" : Str) := rfl
  have key : ∀ s', Inv (ncx CX0 P w K mg base (nsOf fs) F f A outer s H E) [] (startF (nsOf fs) (.ref a :: ws) [some (.ref C)]) H s' →
      wpAny (model P w) (A.deeper (envF F f s.heap.objs.size)) (execs rest (envF F f s.heap.objs.size)) (SP (ncx CX0 P w K mg base (nsOf fs) F f A outer s H E) [] { nx := fun _ H' => Q .non H', rt := Q }) (ncx CX0 P w K mg base (nsOf fs) F f A outer s H E).xe s' := fun s' J => by
    have hidx : ∀ p ∈ (fs.zipIdx 1), (nsOf fs)[p.2]? = some p.1 := fun p hp => by
      obtain ⟨x, i⟩ := p
      obtain ⟨h1, h2, h3⟩ := List.mem_zipIdx hp
      have hi : i - 1 < fs.length := by omega
      show (("self" : Str) :: (fs ++ clsN))[i]? = some x
      obtain ⟨k, rfl⟩ : ∃ k, i = k + 1 := ⟨i - 1, by omega⟩
      rw [List.getElem?_cons_succ, List.getElem?_append_left (by omega), List.getElem?_eq_getElem (by omega)]
      rw [h3]
      rfl
    have hp := pss_flds (X := ncx CX0 P w K mg base (nsOf fs) F f A outer s H E) hX0 (.inl (S.par _ List.mem_cons_self)) has (fs.zipIdx 1) (by simp) (fun p hp => by
      have hm : p.1 ∈ fs := List.fst_mem_of_mem_zipIdx hp
      exact ⟨hidx p hp, .inl (S.par _ (List.mem_cons_of_mem _ hm)), B.dbg _ hm⟩)
    refine hp.run [] s' _ H _ J (flds_all T.oex rfl (fs.zipIdx 1) ws H (by rw [List.length_zipIdx]; exact hw.symm) (fun i p v h1 h2 => ?_) (fun p hp => hno _ (List.fst_mem_of_mem_zipIdx hp)) (by rw [List.length_zipIdx]; omega) ha (fun z => ?_) (fun z dx h1 h2 => ?_))
    · rw [List.getElem?_zipIdx] at h1
      cases e : fs[i]? with
      | none =>
        rw [e] at h1
        cases h1
      | some x =>
        rw [e] at h1
        have e1 : (x, 1 + i) = p := Option.some.inj h1
        subst e1
        show (startF (nsOf fs) (.ref a :: ws) [some (.ref C)])[1 + i]? = some (some v)
        unfold startF
        have hi : i < ws.length := (List.getElem?_eq_some_iff.mp h2).1
        rw [List.getElem?_append_left (by simp; omega), List.getElem?_map, Nat.add_comm, List.getElem?_cons_succ, h2]
        rfl
    · have z2 : fs = [] := by
        cases fs with
        | nil => rfl
        | cons x r => cases z
      exact q0 z2
    · have z2 : fs ≠ [] := fun e => z (by rw [e]; rfl)
      have e : (fs.zipIdx 1).map (·.1) = fs := by simp
      show Q .non _
      rw [e]
      exact q1 z2 dx h1 h2
  have fin : ∀ (fl : Flow) (s' : Shared), SP (ncx CX0 P w K mg base (nsOf fs) F f A outer s H E) [] { nx := fun _ H' => Q .non H', rt := Q } fl s' → CR CX0 outer P w H s Q E (.ok (.ret (match fl with | .ret v => v | _ => .none))) s' := fun fl s' hs => by
    cases fl with
    | ret u =>
      obtain ⟨v, σ', H', J, rv, q⟩ := hs
      exact ⟨v, H', J.os, J.bare, J.base, J.hok, rv, q⟩
    | next =>
      obtain ⟨σ', H', J, q⟩ := hs
      exact ⟨.non, H', J.os, J.bare, J.base, J.hok, rfl, q⟩
    | brk =>
      obtain ⟨_, _, _, q⟩ := hs
      exact False.elim q
    | cont =>
      obtain ⟨_, _, _, q⟩ := hs
      exact False.elim q
  show PySem.wpAt (model P w) (A.deeper (envF F f s.heap.objs.size)) (.func F.body (envF F f s.heap.objs.size)) (execs F.body (envF F f s.heap.objs.size)) _ _ _
  have eb : execs F.body (envF F f s.heap.objs.size) = execs (.Expr (.Call (.Attribute (.Call (.Name "super" p0) [] [] p1) "__init__" p2) [.Constant (.str txt) j p3] [] p4) p5 :: rest) (envF F f s.heap.objs.size) := by rw [hbody]
  rw [eb]
  refine PySem.ks_wpAt_mono (PySem.ks_wpAt_execs_cons (super_init (X := ncx CX0 P w K mg base (nsOf fs) F f A outer s H E) (ar := ar) T I ha rfl rfl (by rw [har]; rfl) B.sup (S.frk _ List.mem_cons_self) (by rw [har]; exact S.par _ List.mem_cons_self) hpar B.top (B.int _ _) (hev _ _) fun s' J => ?_)) (fun fl s' hs => fin fl s' hs) fun e s' hs => hs
  exact PySem.wpAt_of_wpAny (key s' J)
end Ow

/-! Ow.5: exceptions as values: made, their fields read, isinstance -/
namespace Ow
open PySem PySem.Spec L2 NdefX PyProof.Rows
/-- at a stands an exception of the class at C with the fields l -/
def ExcAt (H : Hp) (a C : Addr) (l : List (Str × V)) : Prop := (l = [] ∧ H a = some (exo a C none)) ∨ ∃ d, H a = some (exo a C (some d)) ∧ H d = some (exd d l)
theorem ExcAt.same {H H' : Hp} {a C : Addr} {l : List (Str × V)} (e : ExcAt H a C l) (s : Same H H') : ExcAt H' a C l := by
  rcases e with ⟨e, h⟩ | ⟨d, h1, h2⟩
  · exact .inl ⟨e, s _ _ h⟩
  · exact .inr ⟨d, s _ _ h1, s _ _ h2⟩
/-- what the text says of an exception class -/
structure ExCl (P : Program) (K : PySem.W.Frag) (mg : Str → Option Value) (x : Str) (C f : Addr) (F : NF) (fs : List Str) (fd : FuncData) : Prop where
  k : ExK P K mg C f F
  b : IniBody P F fs
  no : ∀ y ∈ fs, PySem.W.findIn K (.ref C) y = some none
  len : fs.length ≤ 700
  ty : PySem.W.typeIn K (.ref f) = some (.type "function")
  fd_ : ∃ (od : Option Addr) (sl : Array (Option Value)) (kV doc pm ctv : Value) (an : Option Addr), fd = PySem.W.fnX F.name F.qual F.params F.body F.scope F.cl .none kV doc pm an (.ref F.c) ctv ∧ K.lookup f = some (⟨.type "function", od, .func fd, sl⟩ : Obj)
  xf : XfC K C
  mgx : mg x = some (.ref C)
theorem ExCl.ok {P : Program} {w : World} {K : PySem.W.Frag} {mg : Str → Option Value} {base : Heap} {x : Str} {C f : Addr} {F : NF} {fs : List Str} {fd : FuncData} (T : ExCl P K mg x C f F fs fd) : FnOk P w K mg base CX0 1 f fd (psOf fs) (spIni C fs) := by
  obtain ⟨od, sl, kV, doc, pm, ctv, an, rfl, lk⟩ := T.fd_
  exact ini_ok T.k T.b T.no T.len ⟨od, sl, lk⟩
/-- C(.., k = v, ..) as a value -/
def tExc (C : Addr) (fs : List Str) (n m : Nat) (gV : List V → List V → List V) (t tk : TA) : TE := fun σ H Q => t σ H fun vs H1 => tk σ H1 fun zs H2 => vs.length = n ∧ zs.length = m ∧ (gV vs zs).length = fs.length ∧
  ∀ a H3, H2 a = none → Same H2 H3 → ExcAt H3 a C (fs.zip (gV vs zs)).reverse → Q (.ref a) H3
/-- how arguments come to the fields -/
structure EBn (K : PySem.W.Frag) (fd : FuncData) (fs : List Str) (n : Nat) (ks : List Str) (g : List Value → List Value → List Value) (gV : List V → List V → List V) : Prop where
  to : ∀ (s : Shared) (u : Value) (us ws : List Value), us.length = n → ws.length = ks.length → BindsTo s fd ⟨u :: us, ks.zip ws⟩ ((psOf fs).zip (u :: g us ws))
  rel : ∀ {vs : List V} {us : List Value} {zs : List V} {ws : List Value}, Vals vs us → Vals zs ws → Vals (gV vs zs) (g us ws)
section
variable {X : Cx} {n : Nat} {f C : Addr} {F : NF} {fd : FuncData} {fs ks : List Str} {x : Str} {p pos : Pos} {e : Expr} {es : List Expr} {kws : List Keyword} {t tk : TA} {g : List Value → List Value → List Value} {gV : List V → List V → List V}
theorem run_exc {pins : List (Addr × Obj)} {σ : L2.St} {H : Hp} {s : Shared} {Q : VK} {us ws : List Value} {vs zs : List V} (T : ExCl X.prog X.K X.mg x C f F fs fd) (hr : Room 2 X.A) (hb : EBn X.K fd fs n ks g gV) (I : Inv X pins σ H s) (r : Vals vs us) (rz : Vals zs ws) (l1 : vs.length = n) (l2 : zs.length = ks.length)
    (hn : n ≤ 1000) (l3 : (gV vs zs).length = fs.length) (h : ∀ a H3, H a = none → Same H H3 → ExcAt H3 a C (fs.zip (gV vs zs)).reverse → Q (.ref a) H3) : wpAny (model X.prog X.w) X.A (call (.ref C) us (ks.zip ws)) (EP X pins σ Q) X.xe s := by
  obtain ⟨nm, q, N, bs, bm, sn, sub, ab, col, dd, k0, k1, k2, k3, k5, hC, hbm⟩ := T.k.oex.cls
  obtain ⟨hp, gg, dr, tk, os⟩ := s
  have hsz : hp.objs.size ≤ hp.objs.size + 1 := Nat.le_succ _
  have hnn : H (hp.objs.size + 1) = none := I.hok.fresh hsz
  have kk : ∀ b o, hp.get? b = some o → ((hp.push (PySem.W.kdv_tup us)).push (PySem.HandSPX.excO C hp.objs.size)).get? b = some o := fun b o e => Heap.get?_push_of_some _ (Heap.get?_push_of_some _ e)
  have hget : ((hp.push (PySem.W.kdv_tup us)).push (PySem.HandSPX.excO C hp.objs.size)).get? (hp.objs.size + 1) = some (PySem.HandSPX.excO C hp.objs.size) := by heap_get
  have I2 : Inv X pins σ (upd H (hp.objs.size + 1) (exo (hp.objs.size + 1) C none)) ⟨(hp.push (PySem.W.kdv_tup us)).push (PySem.HandSPX.excO C hp.objs.size), gg, dr, tk, os⟩ :=
    I.laid (t' := tk) (a := hp.objs.size + 1) (o := exo (hp.objs.size + 1) C none) kk hsz (exo_ok hget)
  have hus : us.length ≤ sizeLine := by
    rw [← Paired.length r, sizeLine_eq]
    omega
  have S0 : Same H (upd H (hp.objs.size + 1) (exo (hp.objs.size + 1) C none)) := fun b o e => by
    rw [upd_ne (ne_of_none e hnn)]
    exact e
  have hq : spIni C fs (V.ref (hp.objs.size + 1) :: gV vs zs) (upd H (hp.objs.size + 1) (exo (hp.objs.size + 1) C none)) (fun v H3 => v = .non ∧ Q (.ref (hp.objs.size + 1)) H3) (fun _ _ _ => False) := by
    refine ⟨hp.objs.size + 1, gV vs zs, rfl, l3, upd_same, fun z => ⟨rfl, ?_⟩, fun z dx h1 h2 => ⟨rfl, ?_⟩⟩
    · refine h _ _ hnn S0 (.inl ⟨?_, upd_same⟩)
      rw [z]
      rfl
    · refine h _ _ hnn (fun b o e => ?_) (.inr ⟨dx, upd_same, ?_⟩)
      · rw [upd_ne (ne_of_none e hnn), upd_ne (ne_of_none (S0 _ _ e) h1)]
        exact S0 _ _ e
      · rw [upd_ne h2, upd_same]
  have r2 : Vals (V.ref (hp.objs.size + 1) :: gV vs zs) (Value.ref (hp.objs.size + 1) :: g us ws) := .cons rfl (hb.rel r rz)
  refine wpAny_call (PySem.OwE.callK PySem.F.excBase_ValueError (fun Y => PySem.HandSPX.refsVE_contains Y bm hbm) (I.kIn _ _ hC) (PySem.W.looks_findIn I.kIn T.k.ini) (fun self => PySem.W.bind_fn I.kIn self T.ty) hus
    (codeAny_mono ((T.ok (w := X.w) (base := X.base)).run _ X.stack _ _ ⟨Value.ref (hp.objs.size + 1) :: us, ks.zip ws⟩ (Value.ref (hp.objs.size + 1) :: g us ws) _ _ (fun _ _ _ => False) ((hr.make C us (ks.zip ws)).mono (Nat.le_refl _)) (I2.env0.make C us (ks.zip ws)) (hb.to _ _ us ws (by rw [← Paired.length r]; exact l1) (by rw [← Paired.length rz]; exact l2)) r2 hq) fun r s' hq' => ?_))
  cases r with
  | error er => exact False.elim hq'
  | ok fl =>
    cases fl with
    | ret u =>
      obtain ⟨v, H', I3, rv, ev, q3⟩ := I2.after hq'
      subst ev
      exact ⟨rv, ⟨V.ref (hp.objs.size + 1), H', I3, rfl, q3⟩⟩
    | next => exact False.elim hq'
    | brk => exact False.elim hq'
    | cont => exact False.elim hq'
/-- C(k = v, ..) -/
theorem pe_exc0 (T : ExCl X.prog X.K X.mg x C f F fs fd) (hr : Room 2 X.A) (hg : Gl X x) (hb : EBn X.K fd fs 0 ks g gV) (hkw : PK X kws tk)
    (hall : (backToKw pos (keywordEach kws X.env)).all (·.1.isSome) = true := by rfl) (hks : (backToKw pos (keywordEach kws X.env)).filterMap (·.1) = ks := by rfl) (hdb : (x == ("__debug__" : Str)) = false := by decide)
    (hpl : ((backTo pos (starEach [] X.env)).any (·.1) || (backToKw pos (keywordEach kws X.env)).any (·.1.isNone)) = false := by rfl) :
    PE X (.Call (.Name x p) [] kws pos) (tExc C fs 0 ks.length gV tNil tk) := by
  refine ⟨fun pins s σ H Q I h => ?_⟩
  refine wpAny_Call_Name_kw (ld_glob I hg T.mgx ?_ hdb)
  refine PySem.W.callWith_KW0 (h₀ := X.base) I.ok.mod.kin T.k.oex.kC hall ?_ hpl
  refine thn (hkw.run pos pins s σ H _ I h) fun ws s2 ⟨zs, H2, I2, rz, l1, l2, l3, q2⟩ => ⟨I2.kIn, ?_⟩
  rw [hks]
  exact run_exc (us := []) (vs := []) T hr hb I2 .nil rz rfl l2 (by decide) l3 q2
/-- C(e, .., k = v, ..) -/
theorem pe_excN (T : ExCl X.prog X.K X.mg x C f F fs fd) (hr : Room 2 X.A) (hg : Gl X x) (hn : n ≤ 1000) (hb : EBn X.K fd fs n ks g gV) (ha : PA X (e :: es) t) (hkw : PK X kws tk)
    (hall : (backToKw pos (keywordEach kws X.env)).all (·.1.isSome) = true := by rfl) (hks : (backToKw pos (keywordEach kws X.env)).filterMap (·.1) = ks := by rfl) (hdb : (x == ("__debug__" : Str)) = false := by decide)
    (he : starEach (e :: es) X.env = (false, eval e X.env) :: starEach es X.env := by rfl) (hpl : ((backTo pos (starEach (e :: es) X.env)).any (·.1) || (backToKw pos (keywordEach kws X.env)).any (·.1.isNone)) = false := by rfl) :
    PE X (.Call (.Name x p) (e :: es) kws pos) (tExc C fs n ks.length gV t tk) := by
  refine ⟨fun pins s σ H Q I h => ?_⟩
  refine wpAny_Call_Name_kw (ld_glob I hg T.mgx ?_ hdb)
  refine PySem.W.callWith_KW (h₀ := X.base) I.ok.mod.kin T.k.oex.kC hall (thn (ha.run pos pins s σ H _ I h) fun us s1 ⟨vs, H1, I1, r, q⟩ => ?_) hpl he
  refine thn (hkw.run pos pins s1 σ H1 _ I1 q) fun ws s2 ⟨zs, H2, I2, rz, l1, l2, l3, q2⟩ => ⟨I2.kIn, ?_⟩
  rw [hks]
  exact run_exc T hr hb I2 r rz l1 l2 hn l3 q2
/-- e.f -/
def tEfl (K : PySem.W.Frag) (y : Str) (te : TE) : TE := fun σ H Q => te σ H fun x H1 => ∃ (a C : Addr) (l : List (Str × V)) (v : V), x = .ref a ∧ ExcAt H1 a C l ∧ XfC K C ∧ PySem.W.findIn K (.ref C) y = some none ∧ l.lookup y = some v ∧ Q v H1
theorem pe_efl {K : PySem.W.Frag} {e : Expr} {te : TE} {y : Str} (he : PE X e te) (hK : X.K = K := by rfl) (hb : attributeBase e y X.env (eval e X.env) = eval e X.env := by rfl) : PE X (.Attribute e y pos) (tEfl K y te) := by
  subst hK
  refine ⟨fun pins s σ H Q I h => ?_⟩
  refine attr_of hb (thn (he.run pins s σ H _ I h) fun u s1 hh => ?_)
  obtain ⟨x, H1, I1, rx, a, C, l, v, rfl, ea, T, hno, hl, q⟩ := hh
  obtain rfl : u = Value.ref a := rx
  rcases ea with ⟨rfl, _⟩ | ⟨d, ea, ed⟩
  · cases hl
  obtain ⟨t1, ha⟩ := exo_at I1.hok ea
  obtain ⟨mA, hns, hr⟩ := exd_at I1.hok ed
  obtain ⟨od, ho, hlk⟩ := lookIn_ns hns
  obtain ⟨u, hu, ru⟩ := RelO.some_of (v := v) (o := mA y) (by rw [← hl]; exact hr y)
  have J : PySem.W.InstAt s1.heap a _ C (some od) := ⟨ha, rfl, rfl, ho⟩
  exact HandSPX.exc_get I1.kIn J T.ga T.gg T.exC (PySem.W.findObj_own T.hdC hno rfl (by rw [hlk, hu])) (handed_of ru) ⟨v, H1, I1.tok _, ru, q⟩
end
/-- what the class must say for isinstance -/
structure EIs (K : PySem.W.Frag) (C : Addr) : Prop where
  cl : (PySem.W.clsIn K C).isSome = true
  ga : PySem.W.findIn K (.ref C) "__getattribute__" = some (some (.builtin "BaseException.__getattribute__"))
  gg : PySem.W.findIn K (.ref C) "__getattr__" = some none
  sb : PySem.W.subIn K (.ref C) (.type "BaseException") = some true
  kc : PySem.W.findIn K (.ref C) "__class__" = some (some (.builtin "object.__class__"))
  sg : PySem.W.specialIn K (.builtin "object.__class__") "__get__" = some (some (.builtin "getset_descriptor.__get__"))
  tk : PySem.W.takesIn K (.builtin "object.__class__") = some true
  mo : PySem.W.mroIn K C (.type "object") = some true
def rEis (K : PySem.W.Frag) : List V → Hp → VK → Prop := fun xs H Q => ∃ (a C : Addr) (l : List (Str × V)) (c : V) (cv : Value) (b : Bool), xs = [.ref a, c] ∧ ExcAt H a C l ∧ EIs K C ∧ (∀ u, RelV c u → u = cv) ∧ PySem.W.kitOne K (.ref C) cv = some b ∧ Q (.bl b) H
theorem call_eis {X : Cx} : CallR X (.builtin "isinstance") (rEis X.K) := by
  intro pins s σ H xs us Q I r h
  obtain ⟨a, C, l, c, cv, b, rfl, ea, T, hcv, e, q⟩ := h
  cases r with
  | cons rx rr =>
    cases rr with
    | cons rt rr =>
      cases rr
      cases rx
      have ec := hcv _ rt
      subst ec
      rcases ea with ⟨_, ea⟩ | ⟨d, ea, ed⟩
      · obtain ⟨t1, ha⟩ := exo_at I.hok ea
        exact PySem.W.kia_one (PySem.W.kitx_exc (od := none) T.cl T.ga T.gg T.sb T.kc T.sg T.tk T.mo) I.kIn ⟨ha, rfl, rfl, trivial⟩ e (fun z => nomatch z) fun tk => ⟨.bl b, H, I.kept (t' := tk) fun _ _ z => z, rfl, q⟩
      · obtain ⟨t1, ha⟩ := exo_at I.hok ea
        obtain ⟨mA, hns, hr⟩ := exd_at I.hok ed
        obtain ⟨od, ho, _⟩ := lookIn_ns hns
        exact PySem.W.kia_one (PySem.W.kitx_exc (od := some od) T.cl T.ga T.gg T.sb T.kc T.sg T.tk T.mo) I.kIn ⟨ha, rfl, rfl, ho⟩ e (fun z => nomatch z) fun tk => ⟨.bl b, H, I.kept (t' := tk) fun _ _ z => z, rfl, q⟩
end Ow

/-! Ow.6: what is looked at of an exception class behind the top -/
namespace Ow
open PySem PySem.Spec L2 NdefX
def oexB (K : PySem.W.Frag) (C : Addr) : Bool := match K.lookup C with
  | some ⟨.type t, _, .cls cd, sl⟩ => decide (t = "type") && (match cd.mro, sl.toList with
    | .ref C' :: bm, [_, _, _, _, some (.builtin n), _] => decide (C' = C) && (decide (n = "ValueError.__new__") && (!cd.hasDel && (cd.hasDict && PySem.HandSPX.refsVE bm)))
    | _, _ => false)
  | _ => false
theorem oexB_ok {K : PySem.W.Frag} {C : Addr} (h : oexB K C = true) :
    ∃ nm q N bs bm sn sub ab col dd k0 k1 k2 k3 k5, K.lookup C = some (excClassObj nm q C N bs bm true sn sub ab col dd k0 k1 k2 k3 k5 "ValueError.__new__") ∧ PySem.HandSPX.refsVE bm = true := by
  unfold oexB at h
  split at h
  · rename_i t dd cd sl ho
    have h1 := (He.ba h).1
    replace h := (He.ba h).2
    replace h1 := of_decide_eq_true h1
    subst h1
    split at h
    · rename_i C' bm k0 k1 k2 k3 n k5 hm hs
      have h1 := (He.ba h).1
      replace h := (He.ba h).2
      have h2 := (He.ba h).1
      replace h := (He.ba h).2
      have h3 := (He.ba h).1
      replace h := (He.ba h).2
      obtain ⟨h4, h5⟩ := He.ba h
      replace h1 := of_decide_eq_true h1
      replace h2 := of_decide_eq_true h2
      subst h1 h2
      obtain ⟨nm, bs, mro, ns, qn, hd, sn, sub, ab, col, del⟩ := cd
      dsimp only at hm h3 h4
      replace h3 : del = false := by simpa using h3
      subst hm h3 h4
      have hsl : sl = #[k0, k1, k2, k3, some (.builtin "ValueError.__new__"), k5] := by
        obtain ⟨l⟩ := sl
        simp only at hs
        rw [hs]
      subst hsl
      exact ⟨nm, qn, ns, bs, bm, sn, sub, ab, col, dd, k0, k1, k2, k3, k5, ho, h5⟩
    · cases h
  · cases h
/-- the __init__ at f: its closure holds the class, its code the file -/
def iniB (file : Str) (K : PySem.W.Frag) (C f : Addr) : Bool := match K.lookup f with
  | some ⟨.type t, _, .func fd, _⟩ => decide (t = "function") && (decide (fd.globals = mainGlobals) && (decide (fd.builtins = builtinsNs) && (decide (fd.defaults = Value.none) && (match fd.closure, fd.code with
    | [(n, cc)], .ref c => decide (n = ("__class__" : Str)) && (PySem.W.codeIn K (.ref c) fd.qualname && ((match K.lookup cc with
      | some ⟨_, _, .cell (some v), _⟩ => decide (v = .ref C)
      | _ => false) && (match K.lookup c with
      | some ⟨_, _, .fields vs, _⟩ => (match (vs[2]? : Option Value) with
        | some (.str z _) => file == z
        | _ => false)
      | _ => false)))
    | _, _ => false))))
  | _ => false
theorem iniB_ok {file : Str} {K : PySem.W.Frag} {C f : Addr} (h : iniB file K C f = true) :
    ∃ (od : Option Addr) (sl : Array (Option Value)) (fd : FuncData) (cc c : Addr), K.lookup f = some (⟨.type "function", od, .func fd, sl⟩ : Obj) ∧ fd.globals = mainGlobals ∧ fd.builtins = builtinsNs ∧ fd.defaults = .none ∧ fd.closure = [(("__class__" : Str), cc)] ∧ fd.code = .ref c ∧ PySem.W.codeIn K (.ref c) fd.qualname = true ∧
      (∃ (oc : Value) (oo : Option Addr) (os : Array (Option Value)), K.lookup cc = some (⟨oc, oo, .cell (some (.ref C)), os⟩ : Obj)) ∧
      ∃ (oc : Value) (oo : Option Addr) (vs : Array Value) (os : Array (Option Value)) (z : Str) (tf : Tok), K.lookup c = some (⟨oc, oo, .fields vs, os⟩ : Obj) ∧ vs[2]? = some (.str z tf) ∧ (file == z) = true := by
  unfold iniB at h
  split at h
  · rename_i t od fd sl ho
    have h1 := (He.ba h).1
    replace h := (He.ba h).2
    have h2 := (He.ba h).1
    replace h := (He.ba h).2
    have h3 := (He.ba h).1
    replace h := (He.ba h).2
    have h4 := (He.ba h).1
    replace h := (He.ba h).2
    replace h1 := of_decide_eq_true h1
    subst h1
    split at h
    · rename_i n cc c hcl hcd
      have h5 := (He.ba h).1
      replace h := (He.ba h).2
      have h6 := (He.ba h).1
      replace h := (He.ba h).2
      obtain ⟨h7, h8⟩ := He.ba h
      replace h5 := of_decide_eq_true h5
      subst h5
      refine ⟨od, sl, fd, cc, c, ho, of_decide_eq_true h2, of_decide_eq_true h3, of_decide_eq_true h4, hcl, hcd, h6, ?_, ?_⟩
      · split at h7
        · rename_i oc oo v os q
          have e := of_decide_eq_true h7
          subst e
          exact ⟨oc, oo, os, q⟩
        · cases h7
      · split at h8
        · rename_i oc oo vs os q
          split at h8
          · rename_i z tf e
            exact ⟨oc, oo, vs, os, z, tf, q, e, h8⟩
          · cases h8
        · cases h8
    · cases h
  · cases h
def alongB (K : PySem.W.Frag) (C : Addr) : Bool := match PySem.W.clsIn K C with
  | some cd => He.eqO (PySem.W.alongIn K "__init__" ((cd.mro.dropWhile (· != .ref C)).drop 1)) (some (some (.builtin "ValueError.__init__")))
  | none => false
def bEq (a b : Option Bool) : Bool := decide (a = b)
/-- all that is looked at of the class x with the fields fs -/
def excB (file : Str) (K : PySem.W.Frag) (x : Str) (fs : List Str) : Bool :=
  He.eqO (PySem.W.nsIn K mainGlobals x) (some (some (.ref (He.ga K x)))) && (oexB K (He.ga K x) && (PySem.W.keepIn K (.ref (He.ga K x)) && (He.eqO (PySem.W.findIn K (.ref (He.ga K x)) "__setattr__") (some (some (.builtin "object.__setattr__"))) &&
  (decide (PySem.W.typeIn K (.ref (He.ga K x)) = some (.type "type")) && (He.eqO (PySem.W.findIn K (.ref (He.ga K x)) "__init__") (some (some (.ref (He.ma K (He.ga K x) "__init__")))) && (decide (PySem.W.typeIn K (.ref (He.ma K (He.ga K x) "__init__")) = some (.type "function")) &&
  (iniB file K (He.ga K x) (He.ma K (He.ga K x) "__init__") && (alongB K (He.ga K x) && (bEq (PySem.W.mroIn K (He.ga K x) (.ref (He.ga K x))) (some true) && (bEq (PySem.W.subIn K (.ref (He.ga K x)) (.type "ValueError")) (some true) &&
  (fs.all (fun y => He.eqO (PySem.W.findIn K (.ref (He.ga K x)) y) (some none)) && (xfB K (He.ga K x) && (He.eqO (PySem.W.findIn K (.ref (He.ga K x)) "__class__") (some (some (.builtin "object.__class__"))) && bEq (PySem.W.mroIn K (He.ga K x) (.type "object")) (some true))))))))))))))
/-- what is looked at once -/
def excB0 (K : PySem.W.Frag) : Bool := He.eqO (PySem.W.nsIn K cStatics "thirdparty.any") (some none) && (He.eqO (PySem.W.nsIn K mainGlobals "super") (some none) &&
  (He.eqO (PySem.W.specialIn K (.builtin "object.__class__") "__get__") (some (some (.builtin "getset_descriptor.__get__"))) && bEq (PySem.W.takesIn K (.builtin "object.__class__")) (some true)))
/-- F with the closure and code that K tells -/
def nfOf (qual : Str) (st : Stmt) (cl : List (Str × Addr)) (c : Addr) : NF := ⟨"__init__", qual, defArgs st, defBody st, defScope st, cl, c⟩
theorem excB_ok {P : Program} {K : PySem.W.Frag} {mg : Str → Option Value} {h : Heap} {x qual : Str} {fs : List Str} {st : Stmt} (X : K.In h) (G : h.Ns mainGlobals mg) (b0 : excB0 K = true) (b : excB P.main.file K x fs = true) (hl : fs.length ≤ 700)
    (hm : fnC K (He.ma K (He.ga K x) "__init__") = some (("__init__" : Str), qual, defArgs st, FuncBody.stmts (defBody st), defScope st)) (hi : ∀ cl c, IniBody P (nfOf qual st cl c) fs) :
    ∃ cl c fd, ExCl P K mg x (He.ga K x) (He.ma K (He.ga K x) "__init__") (nfOf qual st cl c) fs fd ∧ EIs K (He.ga K x) := by
  obtain ⟨o1, b0⟩ := He.ba b0
  obtain ⟨o2, b0⟩ := He.ba b0
  obtain ⟨o3, o4⟩ := He.ba b0
  obtain ⟨c1, b⟩ := He.ba b
  obtain ⟨c2, b⟩ := He.ba b
  obtain ⟨c3, b⟩ := He.ba b
  obtain ⟨c4, b⟩ := He.ba b
  obtain ⟨c5, b⟩ := He.ba b
  obtain ⟨c6, b⟩ := He.ba b
  obtain ⟨c7, b⟩ := He.ba b
  obtain ⟨c8, b⟩ := He.ba b
  obtain ⟨c9, b⟩ := He.ba b
  obtain ⟨c10, b⟩ := He.ba b
  obtain ⟨c11, b⟩ := He.ba b
  obtain ⟨c12, b⟩ := He.ba b
  obtain ⟨c13, b⟩ := He.ba b
  obtain ⟨c14, c15⟩ := He.ba b
  have xf := xfB_ok c13
  obtain ⟨od, sl, fd, cc, c, lk, g1, g2, g3, g4, g5, g6, ⟨oc, oo, os, gc⟩, ⟨oc2, oo2, vs, os2, z, tf, gd, ge, gf⟩⟩ := iniB_ok c8
  have hm2 : some (fd.name, fd.qualname, fd.params, fd.body, fd.scope) = some (("__init__" : Str), qual, defArgs st, FuncBody.stmts (defBody st), defScope st) := by
    rw [← hm]
    unfold fnC
    rw [lk]
  simp only [Option.some.injEq, Prod.mk.injEq] at hm2
  obtain ⟨m1, m2, m3, m4, m5⟩ := hm2
  obtain ⟨n1, n2, n3, n4, n5, n6, n7, n8, n9, n10, n11, n12, n13, n14, n15⟩ := fd
  dsimp only at m1 m2 m3 m4 m5 g1 g2 g3 g4 g5
  subst m1 m2 m3 m4 m5 g1 g2 g3 g4 g5
  have cls := oexB_ok c2
  refine ⟨[(("__class__" : Str), cc)], c, _, ⟨⟨⟨cls, He.eqO_ok c4, xf.exC, of_decide_eq_true c5, c3⟩, He.eqO_ok c6, ⟨od, sl, n9, n10, n11, n14, n12, lk⟩, ⟨oc2, oo2, vs, os2, z, tf, gd, ge, gf⟩, g6, ⟨cc, oc, oo, os, rfl, gc⟩, fun cd hcd => ?_, of_decide_eq_true c10, of_decide_eq_true c11, He.eqO_ok o1, PySem.W.mg_none_of X G (He.eqO_ok o2)⟩, hi _ _,
    fun y hy => He.eqO_ok (List.all_eq_true.mp c12 y hy), hl, of_decide_eq_true c7, ⟨od, sl, n9, n10, n11, n14, n12, rfl, lk⟩, xf, PySem.W.mg_of X G (He.eqO_ok c1)⟩, ⟨?_, xf.ga, xf.gg, xf.exC, He.eqO_ok c14, He.eqO_ok o3, of_decide_eq_true o4, of_decide_eq_true c15⟩⟩
  · unfold alongB at c9
    rw [hcd] at c9
    exact He.eqO_ok c9
  · cases e : PySem.W.clsIn K (He.ga K x) with
    | some cd => rfl
    | none =>
      unfold alongB at c9
      rw [e] at c9
      cases c9
end Ow

/-! Ow.E7: exception classes by name -/
namespace Ow
open PySem PySem.Spec L2 NdefX
/-- the module's name x stands for the exception class of the text whose __init__ is st, with the fields fs -/
def ClsAt (P : Program) (K : PySem.W.Frag) (mg : Str → Option Value) (x qual : Str) (st : Stmt) (fs : List Str) : Prop :=
  ∃ cl c fd, ExCl P K mg x (He.ga K x) (He.ma K (He.ga K x) "__init__") (nfOf qual st cl c) fs fd ∧ EIs K (He.ga K x)
def gKw {α : Type} (us ws : List α) : List α := us ++ ws.reverse
theorem vals_rev : ∀ {vs : List V} {us : List Value}, Vals vs us → Vals vs.reverse us.reverse
  | _, _, .nil => .nil
  | _, _, .cons (a := a) (b := b) (l₁ := l1) (l₂ := l2) r t => by
    rw [List.reverse_cons, List.reverse_cons]
    exact (vals_rev t).append (.cons r .nil)
/-- how the arguments of a call come to the parameters -/
def BindsX (x qual : Str) (st : Stmt) (fs : List Str) (n : Nat) (ks : List Str) : Prop :=
  ∀ (cl : List (Str × Addr)) (c : Addr) (kV doc pm ctv : Value) (an : Option Addr) (u : Value) (us ws : List Value), us.length = n → ws.length = ks.length →
    bindArgs (PySem.W.fnX "__init__" qual (defArgs st) (defBody st) (defScope st) cl .none kV doc pm an (.ref c) ctv) ⟨u :: us, ks.zip ws⟩ = pure ((psOf fs).zip (u :: gKw us ws))
section
variable {X : Cx} {n : Nat} {x qual : Str} {st : Stmt} {fs ks : List Str} {p pos : Pos} {e : Expr} {es : List Expr} {kws : List Keyword} {t tk : TA}
theorem ebn_of {K : PySem.W.Frag} {P : Program} {mg : Str → Option Value} {cl : List (Str × Addr)} {c : Addr} {C f : Addr} {fd : FuncData} (T : ExCl P K mg x C f (nfOf qual st cl c) fs fd) (hb : BindsX x qual st fs n ks) : EBn K fd fs n ks gKw gKw := by
  obtain ⟨od, sl, kV, doc, pm, ctv, an, rfl, lk⟩ := T.fd_
  exact ⟨fun s u us ws h1 h2 => .of_eq (hb cl c kV doc pm ctv an u us ws h1 h2), fun r1 r2 => r1.append (vals_rev r2)⟩
theorem pe_x0 (E : ClsAt X.prog X.K X.mg x qual st fs) (hr : Room 2 X.A) (hg : Gl X x) (hb : BindsX x qual st fs 0 ks) (hkw : PK X kws tk)
    (hall : (backToKw pos (keywordEach kws X.env)).all (·.1.isSome) = true := by rfl) (hks : (backToKw pos (keywordEach kws X.env)).filterMap (·.1) = ks := by rfl) (hdb : (x == ("__debug__" : Str)) = false := by decide)
    (hpl : ((backTo pos (starEach [] X.env)).any (·.1) || (backToKw pos (keywordEach kws X.env)).any (·.1.isNone)) = false := by rfl) :
    PE X (.Call (.Name x p) [] kws pos) (tExc (He.ga X.K x) fs 0 ks.length gKw tNil tk) := by
  obtain ⟨cl, c, fd, T, _⟩ := E
  exact pe_exc0 T hr hg (ebn_of T hb) hkw hall hks hdb hpl
theorem pe_xN (E : ClsAt X.prog X.K X.mg x qual st fs) (hr : Room 2 X.A) (hg : Gl X x) (hn : n ≤ 1000) (hb : BindsX x qual st fs n ks) (ha : PA X (e :: es) t) (hkw : PK X kws tk)
    (hall : (backToKw pos (keywordEach kws X.env)).all (·.1.isSome) = true := by rfl) (hks : (backToKw pos (keywordEach kws X.env)).filterMap (·.1) = ks := by rfl) (hdb : (x == ("__debug__" : Str)) = false := by decide)
    (he : starEach (e :: es) X.env = (false, eval e X.env) :: starEach es X.env := by rfl) (hpl : ((backTo pos (starEach (e :: es) X.env)).any (·.1) || (backToKw pos (keywordEach kws X.env)).any (·.1.isNone)) = false := by rfl) :
    PE X (.Call (.Name x p) (e :: es) kws pos) (tExc (He.ga X.K x) fs n ks.length gKw t tk) := by
  obtain ⟨cl, c, fd, T, _⟩ := E
  exact pe_excN T hr hg hn (ebn_of T hb) ha hkw hall hks hdb he hpl
end
end Ow
namespace Ow
open PySem PySem.Spec L2 NdefX
section
variable {P : Program} {K : PySem.W.Frag} {mg : Str → Option Value} {x qual : Str} {st : Stmt} {fs : List Str}
theorem ClsAt.xf (h : ClsAt P K mg x qual st fs) : XfC K (He.ga K x) := by
  obtain ⟨_, _, _, T, _⟩ := h
  exact T.xf
theorem ClsAt.no (h : ClsAt P K mg x qual st fs) {y : Str} (hy : y ∈ fs) : PySem.W.findIn K (.ref (He.ga K x)) y = some none := by
  obtain ⟨_, _, _, T, _⟩ := h
  exact T.no y hy
theorem ClsAt.is (h : ClsAt P K mg x qual st fs) : EIs K (He.ga K x) := by
  obtain ⟨_, _, _, _, T⟩ := h
  exact T
end
end Ow

/-! Ow.X1: defs and methods that may raise; calls of them -/
namespace Ow
open PySem PySem.Spec PyProof.Rows L2
def FnAtX (P : Program) (w : World) (K : PySem.W.Frag) (mg : Str → Option Value) (base : Heap) (x : Str) (ps : List Str) (k : Nat) (sp : Sp) : Prop :=
  ∃ f fd, mg x = some (.ref f) ∧ PySem.W.keepIn K (.ref f) = true ∧ Binds K fd ps [] ∧ FnOk P w K mg base (L2.CX P w) k f fd ps sp
def MtAtX (P : Program) (w : World) (K : PySem.W.Frag) (mg : Str → Option Value) (base : Heap) (cls m : Str) (ps : List Str) (k : Nat) (sp : Sp) : Prop :=
  ∃ f fd, Meth K (He.ga K cls) m f ∧ Binds K fd ps [] ∧ FnOk P w K mg base (L2.CX P w) k f fd ps sp
section
variable {P : Program} {w : World} {K : PySem.W.Frag} {mg : Str → Option Value} {base : Heap}
theorem fn_atX {x : Str} {st : Stmt} {N ps : List Str} {k : Nat} {sp : Sp} (T : TopD K mg x st) (S : FnScope N ps (defScope st))
    (hb : ∀ (kV doc pm : Value) (an : Option Addr) (cdv ct : Value) (us : List Value), us.length = ps.length → bindArgs (PySem.W.fnOf x x (defArgs st) (defBody st) (defScope st) .none kV doc pm an cdv ct) ⟨us, []⟩ = pure (ps.zip us))
    (len : ∀ vs H Q E, sp vs H Q E → vs.length = ps.length)
    (hbody : ∀ (f : Addr) (cdv : Value) (A : Around) (outer : List Env) (s : Shared) (H : Hp) (vs : List V) (Q : VK) (E : XK), Room k (A.deeper (envOfC x (defScope st) s.heap.objs.size f cdv)) → sp vs H Q E →
      ∃ t, PSs (cxOf (L2.CX P w) P w K mg base N x (defScope st) f cdv A outer s H E) (defBody st) t ∧ t { nx := fun _ H' => Q .non H', rt := Q } (start N vs) H) : FnAtX P w K mg base x ps (k + 1) sp := by
  obtain ⟨f, fd, F, hm⟩ := T
  exact ⟨f, fd, hm, F.kp, F.bindsN hb, F.ok S len fun cdv A outer s H vs Q E hr h => hbody f cdv A outer s H vs Q E hr h⟩
theorem mt_atX {cls m qual : Str} {st : Stmt} {N ps : List Str} {k : Nat} {sp : Sp} (T : MtD K cls m qual st) (S : FnScope N ps (defScope st))
    (hb : ∀ (kV doc pm : Value) (an : Option Addr) (cdv ct : Value) (us : List Value), us.length = ps.length → bindArgs (PySem.W.fnOf m qual (defArgs st) (defBody st) (defScope st) .none kV doc pm an cdv ct) ⟨us, []⟩ = pure (ps.zip us))
    (len : ∀ vs H Q E, sp vs H Q E → vs.length = ps.length)
    (hbody : ∀ (f : Addr) (cdv : Value) (A : Around) (outer : List Env) (s : Shared) (H : Hp) (vs : List V) (Q : VK) (E : XK), Room k (A.deeper (envOfC qual (defScope st) s.heap.objs.size f cdv)) → sp vs H Q E →
      ∃ t, PSs (cxOf (L2.CX P w) P w K mg base N qual (defScope st) f cdv A outer s H E) (defBody st) t ∧ t { nx := fun _ H' => Q .non H', rt := Q } (start N vs) H) : MtAtX P w K mg base cls m ps (k + 1) sp := by
  obtain ⟨f, fd, F, hm⟩ := T
  exact ⟨f, fd, hm, F.bindsN hb, F.ok S len fun cdv A outer s H vs Q E hr h => hbody f cdv A outer s H vs Q E hr h⟩
theorem FnAtX.mono {x : Str} {ps : List Str} {j k : Nat} {sp : Sp} (F : FnAtX P w K mg base x ps j sp) (h : j ≤ k) : FnAtX P w K mg base x ps k sp := by
  obtain ⟨f, fd, h1, h2, h3, h4⟩ := F
  exact ⟨f, fd, h1, h2, h3, h4.mono h⟩
theorem MtAtX.mono {cls m : Str} {ps : List Str} {j k : Nat} {sp : Sp} (F : MtAtX P w K mg base cls m ps j sp) (h : j ≤ k) : MtAtX P w K mg base cls m ps k sp := by
  obtain ⟨f, fd, h1, h2, h3⟩ := F
  exact ⟨f, fd, h1, h2, h3.mono h⟩
/-- without raising, as a promise of the other kind -/
theorem FnOk.calm {k : Nat} {f : Addr} {fd : FuncData} {ps : List Str} {sp : Sp} (F : FnOk P w K mg base (L2.CX P w) k f fd ps sp) (sp' : Sp) (hs : ∀ vs H Q E, sp' vs H Q E → sp vs H Q E0) (hl : ∀ vs H Q E, sp' vs H Q E → vs.length = ps.length) : FnOk P w K mg base CX0 k f fd ps sp' := by
  refine ⟨hl, fun A outer s H args us vs Q E hr e0 hb r h => ?_⟩
  refine codeAny_mono (F.run A outer s H args us vs Q E0 hr e0 hb r (hs _ _ _ _ h)) fun r s' hq => ?_
  cases r with
  | error e =>
    obtain ⟨_, _, _, _, _, _, _, _, _, _, _, _, z⟩ := hq
    exact z.elim
  | ok fl =>
    cases fl with
    | ret u => exact hq
    | next => exact hq
    | brk => exact hq
    | cont => exact hq
end
section
variable {X : Cx} {cls m x : Str} {p apos pos : Pos} {o e : Expr} {es : List Expr} {t : TA} {ta : TE} {ps : List Str} {k : Nat} {sp : Sp}
theorem pe_fnX {E : XK} (F : FnAtX X.prog X.w X.K X.mg X.base x ps k sp) (hx : Passes (L2.CX X.prog X.w) X E) (hr : Room k X.A) (hg : Gl X x) (ha : PA X (e :: es) t) (hdb : (x == ("__debug__" : Str)) = false := by decide) (he : starEach (e :: es) X.env = (false, eval e X.env) :: starEach es X.env := by rfl)
    (hpl : (backTo pos (starEach es X.env)).any (·.1) = false := by rfl) : PE X (.Call (.Name x p) (e :: es) [] pos) (tCall sp [] E t) := by
  obtain ⟨f, fd, h1, h2, h3, h4⟩ := F
  exact pe_call h4 hr hg h1 h2 h3 .nil hx ha hdb he hpl
theorem pe_mtX {E : XK} {pl : Sem Bool} (F : MtAtX X.prog X.w X.K X.mg X.base cls m ps k sp) (c : Cls X.K (He.ga X.K cls)) (hx : Passes (L2.CX X.prog X.w) X E) (hr : Room k X.A) (ho : PE X o ta) (ha : PA X (e :: es) t)
    (hst : starEach (e :: es) X.env = (false, eval e X.env) :: starEach es X.env := by rfl) (hpl : (backTo pos (starEach es X.env)).any (·.1) = false := by rfl)
    (ht : eval (.Call (.Attribute o m apos) (e :: es) [] pos) X.env = (do
      let ov ← eval o X.env
      standAt apos.atName
      let (f, first) ← holding [ov] (getMethod ov m pl)
      callWith pos f first (backTo pos (starEach (e :: es) X.env)) (backToKw pos (keywordEach [] X.env))) := by rfl) :
    PE X (.Call (.Attribute o m apos) (e :: es) [] pos) (tMeth (He.ga X.K cls) m sp [] E ta t) := by
  obtain ⟨f, fd, h1, h2, h3⟩ := F
  exact pe_meth ho c h1 h3 hr h2 .nil hx ha hst hpl ht
/-- .. where the wish is about the slots, too: within a try -/
def tMethS (C : Addr) (m : Str) (sp : Sp) (E : L2.St → XK) (ta : TE) (t : TA) : TE := fun σ H Q => ta σ H fun x H1 => ∃ a dx fs, x = .ref a ∧ H1 a = some (.ins C dx fs) ∧ fs.lookup m = none ∧ t σ H1 fun vs H2 => sp (x :: vs) H2 Q (E σ)
theorem pe_mtS {W : WX} {pl : Sem Bool} (F : MtAtX X.prog X.w X.K X.mg X.base cls m ps k sp) (c : Cls X.K (He.ga X.K cls)) (tk : Takes X W) (hr : Room k X.A) (ho : PE X o ta) (ha : PA X (e :: es) t)
    (hst : starEach (e :: es) X.env = (false, eval e X.env) :: starEach es X.env := by rfl) (hpl : (backTo pos (starEach es X.env)).any (·.1) = false := by rfl)
    (ht : eval (.Call (.Attribute o m apos) (e :: es) [] pos) X.env = (do
      let ov ← eval o X.env
      standAt apos.atName
      let (f, first) ← holding [ov] (getMethod ov m pl)
      callWith pos f first (backTo pos (starEach (e :: es) X.env)) (backToKw pos (keywordEach [] X.env))) := by rfl) :
    PE X (.Call (.Attribute o m apos) (e :: es) [] pos) (tMethS (He.ga X.K cls) m sp (WE W) ta t) := by
  obtain ⟨f, fd, hm, hb, F⟩ := F
  refine ⟨fun pins s σ H Q I h => ?_⟩
  refine PySem.W.methodCall_KW (pl := pl) (thn (ho.run pins s σ H _ I h) fun u s1 ⟨x, H1, I1, rx, a, dx, fs, ex, ea, l, q⟩ => ?_) ht
  subst ex
  obtain rfl : u = Value.ref a := rx
  refine getmeth_ok I1 ea c hm l ?_
  refine PySem.W.callWith_K (first := [.ref a]) (h₀ := X.base) I.ok.mod.kin hm.kp (thn (ha.run pos pins s1 σ H1 _ I1 q) fun us s2 ⟨vs, H2, I2, r, q2⟩ => ⟨I2.kIn, ?_⟩) hst hpl
  exact run_fnS (E := WE W) (us := .ref a :: us) (vs := .ref a :: vs) F hr hb (passAt tk σ) I2 (.cons rfl r) q2
/-- C(..) -/
theorem pe_mkX {E : XK} (F : MtAtX X.prog X.w X.K X.mg X.base cls "__init__" ps k sp) (c : ∃ f, Mk X.K (He.ga X.K cls) f) (hx : Passes (L2.CX X.prog X.w) X E) (hr : Room (k + 1) X.A) (hg : Gl X cls) (hm : X.mg cls = some (.ref (He.ga X.K cls))) (ha : PA X (e :: es) t)
    (hdb : (cls == ("__debug__" : Str)) = false := by decide) (he : starEach (e :: es) X.env = (false, eval e X.env) :: starEach es X.env := by rfl) (hpl : (backTo pos (starEach es X.env)).any (·.1) = false := by rfl) :
    PE X (.Call (.Name cls p) (e :: es) [] pos) (tMake (He.ga X.K cls) sp [] E t) := by
  obtain ⟨f, fd, h1, h2, h3⟩ := F
  obtain ⟨f', M⟩ := c
  have e1 : f' = f := by
    have z := M.init.symm.trans h1.at_
    cases z
    rfl
  subst e1
  exact pe_make M h3 hr hg hm h2 .nil hx ha hdb he hpl
def tMakeS (C : Addr) (sp : Sp) (E : L2.St → XK) (t : TA) : TE := fun σ H Q => t σ H fun vs H1 => ∀ x dx, H1 x = none → H1 dx = none → dx ≠ x →
  sp (.ref x :: vs) (upd (upd H1 dx (.own x)) x (.ins C dx [])) (fun v H2 => v = .non ∧ Q (.ref x) H2) (E σ)
theorem pe_mkS {W : WX} (F : MtAtX X.prog X.w X.K X.mg X.base cls "__init__" ps k sp) (c : ∃ f, Mk X.K (He.ga X.K cls) f) (tk : Takes X W) (hr : Room (k + 1) X.A) (hg : Gl X cls) (hm : X.mg cls = some (.ref (He.ga X.K cls))) (ha : PA X (e :: es) t)
    (hdb : (cls == ("__debug__" : Str)) = false := by decide) (he : starEach (e :: es) X.env = (false, eval e X.env) :: starEach es X.env := by rfl) (hpl : (backTo pos (starEach es X.env)).any (·.1) = false := by rfl) :
    PE X (.Call (.Name cls p) (e :: es) [] pos) (tMakeS (He.ga X.K cls) sp (WE W) t) := by
  obtain ⟨f, fd, h1, hb, F⟩ := F
  obtain ⟨f', M⟩ := c
  have e1 : f' = f := by
    have z := M.init.symm.trans h1.at_
    cases z
    rfl
  subst e1
  refine ⟨fun pins s σ H Q I h => ?_⟩
  refine wpAny_Call_Name_kw (ld_glob I hg hm ?_ hdb)
  refine PySem.W.callWith_K (h₀ := X.base) I.ok.mod.kin M.kp (thn (ha.run pos pins s σ H _ I h) fun us s1 ⟨vs, H1, I1, r, q⟩ => ⟨I1.kIn, ?_⟩) he hpl
  have hq := q (s1.heap.objs.size + 1) s1.heap.objs.size (I1.hok.fresh (Nat.le_succ _)) (I1.hok.fresh (Nat.le_refl _)) (Nat.ne_of_lt (Nat.lt_succ_self _))
  have I2 := Inv.made (C := He.ga X.K cls) I1
  have r2 : Vals (V.ref (s1.heap.objs.size + 1) :: vs) (Value.ref (s1.heap.objs.size + 1) :: us) := .cons rfl r
  have hl : (Value.ref (s1.heap.objs.size + 1) :: us).length = ps.length := by
    have e := r2.length
    rw [F.len _ _ _ _ hq] at e
    exact e.symm
  have b := hb _ (Value.ref (s1.heap.objs.size + 1) :: us) I2.kIn (by rw [List.append_nil]; exact hl)
  rw [List.append_nil] at b
  refine wpAny_call (make_map (f := f') I1.kIn M.makes M.init (beq_iff_eq.mp M.fn) (codeAny_mono (F.run _ X.stack _ _ ⟨Value.ref (s1.heap.objs.size + 1) :: us, []⟩ (Value.ref (s1.heap.objs.size + 1) :: us) _ _ (WE W σ) (hr.make (He.ga X.K cls) us [])
    (I2.env0.make (He.ga X.K cls) us []) b r2 hq) fun r s' hq' => ?_))
  cases r with
  | error e => exact passAt tk σ pins _ _ e s' I2 hq'
  | ok fl =>
    cases fl with
    | ret u =>
      obtain ⟨v, H', I3, rv, ev, q3⟩ := I2.after hq'
      subst ev
      exact ⟨rv, ⟨V.ref (s1.heap.objs.size + 1), H', I3, rfl, q3⟩⟩
    | next => exact False.elim hq'
    | brk => exact False.elim hq'
    | cont => exact False.elim hq'
end
/-! Ow.X2: raise C(e, ..) of an exception class of the text -/
section
variable {X : Cx} {x qual : Str} {st : Stmt} {fs : List Str} {p pos pos' : Pos} {e : Expr} {es : List Expr} {t : TA}
theorem pmk_x (hB : ClsAt X.prog X.K X.mg x qual st fs) (hb : BindsX x qual st fs fs.length []) (hr : Room 2 X.A) (hg : Gl X x) (ha : PA X (e :: es) t)
    (hdb : (x == ("__debug__" : Str)) = false := by decide) (he : starEach (e :: es) X.env = (false, eval e X.env) :: starEach es X.env := by rfl) (hpl : (backTo pos (starEach es X.env)).any (·.1) = false := by rfl) :
    PMk X (.Call (.Name x p) (e :: es) [] pos) (tMkO (He.ga X.K x) (spIni (He.ga X.K x) fs) [] t) := by
  obtain ⟨cl, c, fd, T, _⟩ := hB
  have F1 : FnOk X.prog X.w X.K X.mg X.base CX0 1 (He.ma X.K (He.ga X.K x) "__init__") fd (psOf fs) (spIni (He.ga X.K x) fs) := T.ok
  refine pmk_oex (CX := CX0) T.k.oex T.k.ini T.ty F1 hr ?_ .nil pass0 hg T.mgx ha hdb he hpl
  obtain ⟨od, sl, kV, doc, pm, ctv, an, rfl, lk⟩ := T.fd_
  intro s us hk hl
  rw [List.append_nil] at hl ⊢
  cases us with
  | nil => cases hl
  | cons u us =>
    have q := hb cl c kV doc pm ctv an u us [] (by simpa using hl) rfl
    have e1 : gKw us ([] : List Value) = us := by simp [gKw]
    rw [e1] at q
    exact .of_eq q
/-- the reading's end: the exception's dict is new -/
theorem rx_ {C : Addr} {vs : List V} {H1 : Hp} {Q : XK} (hl : vs.length = fs.length) (hf : fs ≠ []) (hm : fs.length ≤ 1000) (h : ∀ d H2, H1 d = none → Same H1 H2 → H2 d = some (.xd (fs.zip vs).reverse) → Q (.ref C) (some d) H2) :
    vs.length ≤ 1000 ∧ ∀ a, H1 a = none → spIni C fs (.ref a :: (vs ++ [])) (upd H1 a (exo a C none)) (fun v H2 => v = .non ∧ ∃ (d : Addr) (fs : List (Str × V)), H2 a = some (exo a C (some d)) ∧ H2 d = some (exd d fs) ∧ H1 d = none ∧ Q (.ref C) (some d) (upd (del H2 a) d (.xd fs))) (fun _ _ _ => False) := by
  refine ⟨by omega, fun a ha => ⟨a, vs, by rw [List.append_nil], hl, upd_same, fun z => absurd z hf, fun _ dx hdx ne => ⟨rfl, dx, (fs.zip vs).reverse, upd_same, ?_, ?_, ?_⟩⟩⟩
  · rw [upd_ne ne, upd_same]
  · rw [upd_ne ne] at hdx
    exact hdx
  · rw [upd_ne ne] at hdx
    refine h dx _ hdx (fun b o q => ?_) upd_same
    have n1 : b ≠ dx := ne_of_none q hdx
    have n2 : b ≠ a := ne_of_none q ha
    rw [upd_ne n1, del_ne n2, upd_ne n2, upd_ne n1, upd_ne n2]
    exact q
end
/-! Ow.X3: several except clauses with names -/
def wAsN (K : PySem.W.Frag) (Wout : WX) (D : Ends) : List (Value × Nat × (Addr → Value → Option Addr → TS)) → WX
  | [] => Wout
  | (c, i, ts) :: r => fun cls d σ H => ∃ b, PySem.W.exmOne K cls c = some b ∧ (b = true → ∀ a, H a = none → ts a cls d { nx := fun σ' H' => D.nx (σ'.set i none) H', rt := D.rt, bk := fun σ' H' => D.bk (σ'.set i none) H', ct := fun σ' H' => D.ct (σ'.set i none) H' } (σ.set i (some (.ref a))) H) ∧
      (b = false → wAsN K Wout D r cls d σ H)
inductive HdsN (X : Cx) : List ExceptHandler → List (Value × Nat × (Addr → Value → Option Addr → TS)) → Prop
  | nil : HdsN X [] []
  | cons {x n : Str} {c : Value} {i : Nat} {ts : Addr → Value → Option Addr → TS} {b0 : Stmt} {suite : List Stmt} {np pos' : Pos} {hds : List ExceptHandler} {l : List (Value × Nat × (Addr → Value → Option Addr → TS))} (hc : Names X x c) (hi : X.N[i]? = some n) (hln : X.env.kindOf n = some .local)
      (hsu : ∀ (a : Addr) (oe : Obj) (cls : Value) (d : Option Addr) (pn : List (Addr × Obj)), Zc cls d oe → (∃ vs, oe.data = .fields vs) → PSs (X.suite a ((a, oe) :: pn)) (b0 :: suite) (ts a cls d)) (r : HdsN X hds l) :
      HdsN X (.ExceptHandler (some (.Name x np)) (some n) (b0 :: suite) pos' :: hds) ((c, i, ts) :: l)
section
variable {X : Cx} {body : List Stmt} {h0 : ExceptHandler} {hds : List ExceptHandler} {l : List (Value × Nat × (Addr → Value → Option Addr → TS))} {pos : Pos} {tb : WX → TS} {Wout : WX}
theorem ps_try_asN (hs : X.stack = X.env :: X.outer) (hf : X.env.frame = some X.env.locals) (hN : X.N.Nodup) (tk : Takes X Wout)
    (hb : ∀ (W : WX) (pn : List (Addr × Obj)) (xe : Value → Shared → Prop), Takes (X.tr pn xe) W → PassesOwn (model X.prog X.w) X.A X.env xe → PSs (X.tr pn xe) body (tb W))
    (hh : HdsN X (h0 :: hds) l) : PS X (.Try body (h0 :: hds) [] [] pos) (fun D σ H => tb (wAsN X.K Wout D l) D σ H) := by
  refine ⟨fun pins s σ H D I h => ?_⟩
  have ok := I.ok
  have hfr : X.A.frames = some (X.env :: X.outer) := by rw [ok.frames, hs]
  refine wpAny_Try_except ?_
  refine wpAny_mono ((hb (wAsN X.K Wout D l) (X.pn ++ pins) (fun e s₁ => wpAny (model X.prog X.w) X.A (noteFrame e X.env) (fun _ s₂ => wpAny (model X.prog X.w) X.A (setFlight e none) (fun _ s₃ =>
    wpAny (model X.prog X.w) X.A (handleBy e X.env (h0 :: hds)) (SP X pins D) X.xe s₃) X.xe s₂) X.xe s₁) (fun u s' xx => ?_) PassesOwn.looking).run [] s σ H D (I.toTry _) h) (fun f s1 hsp => ?_) (fun e s1 he => he)
  · obtain ⟨a, B, sI, pins', σ', H', cls, d, rfl, J', nb, up, sky, na, os, ag, w⟩ := xx
    have J : Inv X pins σ' H' sI := J'.ofTry ok
    have sky' : Sky B (X.env :: X.outer) a (Zc cls d) X.env.locals s'.heap := by rw [← hs]; exact sky
    show wpAny (model X.prog X.w) X.A (noteFrame (.ref a) X.env) _ _ _
    refine Sky.land Zc.steady hfr hf sky' fun h3 fl3 up3 => ?_
    have J3 : Inv X pins σ' H' { s' with heap := h3 } := J.landed nb fl3.1 (up.trans up3) os ag
    obtain ⟨oe3, vs3, he3, hz3, hd3⟩ := fl3.there
    have notFr : ∀ {h : Heap} {o : Obj} {vs : Array Value}, h.FunFrames B (X.env :: X.outer) → h.get? a = some o → o.data = .fields vs → a ∉ frs (X.env :: X.outer) := fun {h o vs} ff e dd hm => by
      obtain ⟨_, o', e', hnf⟩ := ff.mem hm
      rw [e] at e'; cases e'
      exact hnf _ dd
    have nfr := notFr fl3.2.2.1 he3 hd3
    have nL : a ≠ X.env.locals := fun z => nfr (List.mem_filterMap.mpr ⟨X.env, List.mem_cons_self, by rw [hf, z]⟩)
    have nF : a ∉ X.fs := fun hm => by
      obtain ⟨e, he, q⟩ := List.mem_filterMap.mp hm
      exact nfr (List.mem_filterMap.mpr ⟨e, List.mem_cons_of_mem _ he, q⟩)
    have S3 := J3.suite he3 hd3 na nL nF
    have go : ∀ {hds' : List ExceptHandler} {l' : List (Value × Nat × (Addr → Value → Option Addr → TS))}, HdsN X hds' l' → wAsN X.K Wout D l' cls d σ' H' →
        wpAny (model X.prog X.w) X.A (handleBy (.ref a) X.env hds') (SP X pins D) X.xe { s' with heap := h3 } := by
      intro hds' l' hk
      induction hk with
      | nil =>
        intro w
        refine wpAny_handleBy_nil ?_
        obtain ⟨k1, k2, k3, oe, vs, T, oT, ts', he, hz, hd, h1, hr⟩ := id fl3
        unfold PySem.passOn
        refine wpAny_bind (wpAny_field he hd h1 ?_)
        rw [if_neg (show ¬ ((Value.ref T == Value.none) = true) from by simp)]
        have fin : wpAny (model X.prog X.w) X.A (setFlight (.ref a) X.env.frame) (fun _ s4 => wpAny (model X.prog X.w) X.A (throw (.ref a) : Sem Flow) (SP X pins D) X.xe s4) X.xe { s' with heap := h3 } := by
          rw [hf]
          refine HandSPX.setFlight_upZ fl3 fun h4 hh4 up4 => wpAny_throw (tk _ _ ?_)
          exact ⟨a, B, sI, pins, σ', H', cls, d, rfl, J, nb, (up.trans up3).trans up4, .inr (.inr (by rw [hs]; exact hh4)), na, os, ag, w⟩
        first
          | exact wpAny_bind (wpAny_pure (wpAny_bind fin))
          | exact wpAny_bind fin
      | @cons x n c i ts b0 suite np pos' hds2 l2 hc hi hln hsu r ih =>
        intro w
        have hloc : Loc X.env.scope n := .inl hln
        obtain ⟨b, hb1, hyes, hno⟩ := w
        refine wpAny_handleBy_cons (codeAny_handlers_test ?_) (by intro q; cases q)
        have LT : PySem.W.Looks (model X.prog X.w) h3 (typeOf (.ref a)) cls := fun A Q E s k q => wpAny_typeOf_ref (k _ _ he3) (by rw [hz3.1]; exact q)
        have LM := PySem.W.exm_one (M := model X.prog X.w) (J3.kIn) LT hb1
        have test : ∀ {Q : Value → Shared → Prop} {E : Value → Shared → Prop}, Q c { s' with heap := h3 } → wpAny (model X.prog X.w) (X.A.mark (some (.ref a))) (eval (.Name x np) X.env) Q E { s' with heap := h3 } := fun {Q E} q => by
          obtain ⟨hg, hdbg, hm | ⟨hm, hv, hnn⟩⟩ := hc
          · exact ld_glob (X := X.suite a ((a, oe3) :: (X.pn ++ pins))) S3 hg hm q hdbg
          · exact ld_blt (X := X.suite a ((a, oe3) :: (X.pn ++ pins))) S3 hg hm hv q hnn hdbg
        refine test (LM.here ?_)
        cases b with
        | true =>
          refine codeAny_handlers_suite_as ?_
          refine HandSPX.lands_againZ fl3 fun h4 fl4 up4 => ?_
          have J4 : Inv X pins σ' H' { s' with heap := h4 } := J.landed nb fl4.1 ((up.trans up3).trans up4) os ag
          obtain ⟨oe4, vs4, he4, hz4, hd4⟩ := fl4.there
          have S4 := J4.suite he4 hd4 na nL nF
          refine store_ok (X := X.suite a ((a, oe4) :: (X.pn ++ pins))) (v := .ref a) S4 hN hi hloc rfl (fun s5 S5 => ?_) (.inr hln)
          refine wpAny_mono ((hsu a oe4 cls d (X.pn ++ pins) hz4 ⟨_, hd4⟩).run [] s5 _ H' _ S5 (hyes rfl a na)) (fun f s6 hsp => ?_) (fun _ _ z => False.elim z)
          have end_ : ∀ {σ6 : L2.St} {H6 : Hp} {Q : Shared → Prop}, Inv (X.suite a ((a, oe4) :: (X.pn ++ pins))) [] σ6 H6 s6 → (∀ s7, Inv X pins (σ6.set i none) H6 s7 → Q s7) →
              wpAny (model X.prog X.w) X.A (do bindName X.env n .none; unbindBehindTheSuite X.env n pos') (fun _ s7 => Q s7) X.xe s6 := fun {σ6 H6 Q} S6 hq => gone_ok (S6.unsuite ok) hN hi hln hq
          cases f with
          | next =>
            obtain ⟨σ6, H6, S6, q6⟩ := hsp
            exact end_ S6 fun s7 J7 => ⟨_, _, J7, q6⟩
          | brk =>
            obtain ⟨σ6, H6, S6, q6⟩ := hsp
            exact end_ S6 fun s7 J7 => ⟨_, _, J7, q6⟩
          | cont =>
            obtain ⟨σ6, H6, S6, q6⟩ := hsp
            exact end_ S6 fun s7 J7 => ⟨_, _, J7, q6⟩
          | ret u =>
            obtain ⟨v6, σ6, H6, S6, r6, q6⟩ := hsp
            exact end_ S6 fun s7 J7 => ⟨_, _, _, J7, r6, q6⟩
        | false =>
          show wpAny _ X.A (handleBy (.ref a) X.env hds2) _ _ _
          exact ih (hno rfl)
    exact go hh w
  · cases f with
    | next =>
      obtain ⟨σ', H', J', q⟩ := hsp
      exact wpAny_execs_nil ⟨σ', H', J'.ofTry ok, q⟩
    | brk =>
      obtain ⟨σ', H', J', q⟩ := hsp
      exact ⟨σ', H', J'.ofTry ok, q⟩
    | cont =>
      obtain ⟨σ', H', J', q⟩ := hsp
      exact ⟨σ', H', J'.ofTry ok, q⟩
    | ret u =>
      obtain ⟨v, σ', H', J', r, q⟩ := hsp
      exact ⟨v, σ', H', J'.ofTry ok, r, q⟩
end
/-! Ow.X4: a caught exception: isinstance(e, T) -/
def rXis (K : PySem.W.Frag) (a : Addr) (cls : Value) (d : Option Addr) : List V → Hp → VK → Prop := fun xs H Q => ∃ (C dd : Addr) (fs : List (Str × V)) (c : V) (cv : Value) (b : Bool), xs = [.ref a, c] ∧ cls = .ref C ∧ d = some dd ∧ H dd = some (.xd fs) ∧ EIs K C ∧ (∀ u, RelV c u → u = cv) ∧ PySem.W.kitOne K (.ref C) cv = some b ∧ Q (.bl b) H
theorem call_xis {X : Cx} {a : Addr} {oe : Obj} {cls : Value} {d : Option Addr} {pn : List (Addr × Obj)} (hz : Zc cls d oe) (hf : ∃ vs, oe.data = .fields vs) : CallR (X.suite a ((a, oe) :: pn)) (.builtin "isinstance") (rXis X.K a cls d) := by
  intro pins s σ H xs us Q I r h
  obtain ⟨C, dd, fs, c, cv, b, rfl, rfl, rfl, ed, T, hcv, e, q⟩ := h
  cases r with
  | cons rx rr =>
    cases rr with
    | cons rt rr =>
      cases rr
      cases rx
      have ec := hcv _ rt
      subst ec
      obtain ⟨ha, _⟩ := I.pin (a, oe) (List.mem_append_left _ List.mem_cons_self)
      obtain ⟨vs, hd⟩ := hf
      have hx : ObjOk X.prog X.w H s.heap dd (.xd fs) := I.hok dd _ ed
      obtain ⟨mA, hns, hr⟩ := hx
      obtain ⟨od, ho, _⟩ := lookIn_ns hns
      have J : PySem.W.InstAt s.heap a oe C (some od) := ⟨ha, hz.1, by unfold PySem.W.notCls; rw [hd] <;> rfl, by rw [hz.2]; exact ho⟩
      exact PySem.W.kia_one (PySem.W.kitx_exc (ox := oe) (od := some od) T.cl T.ga T.gg T.sb T.kc T.sg T.tk T.mo) I.kIn J e (fun z => nomatch z) fun tk => ⟨.bl b, H, I.kept (t' := tk) fun _ _ z => z, rfl, q⟩
end Ow
/-! Ow.X5: the same with the written part said (within a try's body) -/
namespace Ow
open PySem PySem.Spec PyProof.Rows L2
section
variable {X : Cx} {K : PySem.W.Frag} {cls m x : Str} {p apos pos : Pos} {o e : Expr} {es : List Expr} {t : TA} {ta : TE} {ps : List Str} {k : Nat} {sp : Sp}
theorem pe_mtSK {W : WX} {pl : Sem Bool} (F : MtAtX X.prog X.w K X.mg X.base cls m ps k sp) (c : Cls K (He.ga K cls)) (tk : Takes X W) (hr : Room k X.A) (ho : PE X o ta) (ha : PA X (e :: es) t) (hK : X.K = K := by rfl)
    (hst : starEach (e :: es) X.env = (false, eval e X.env) :: starEach es X.env := by rfl) (hpl : (backTo pos (starEach es X.env)).any (·.1) = false := by rfl)
    (ht : eval (.Call (.Attribute o m apos) (e :: es) [] pos) X.env = (do
      let ov ← eval o X.env
      standAt apos.atName
      let (f, first) ← holding [ov] (getMethod ov m pl)
      callWith pos f first (backTo pos (starEach (e :: es) X.env)) (backToKw pos (keywordEach [] X.env))) := by rfl) :
    PE X (.Call (.Attribute o m apos) (e :: es) [] pos) (tMethS (He.ga K cls) m sp (WE W) ta t) := by
  subst hK
  exact pe_mtS F c tk hr ho ha hst hpl ht
theorem pe_mkSK {W : WX} (F : MtAtX X.prog X.w K X.mg X.base cls "__init__" ps k sp) (c : ∃ f, Mk K (He.ga K cls) f) (tk : Takes X W) (hr : Room (k + 1) X.A) (hg : Gl X cls) (hm : X.mg cls = some (.ref (He.ga K cls))) (ha : PA X (e :: es) t) (hK : X.K = K := by rfl)
    (hdb : (cls == ("__debug__" : Str)) = false := by decide) (he : starEach (e :: es) X.env = (false, eval e X.env) :: starEach es X.env := by rfl) (hpl : (backTo pos (starEach es X.env)).any (·.1) = false := by rfl) :
    PE X (.Call (.Name cls p) (e :: es) [] pos) (tMakeS (He.ga K cls) sp (WE W) t) := by
  subst hK
  exact pe_mkS F c tk hr hg hm ha hdb he hpl
end
theorem call_xisK {X : Cx} {K : PySem.W.Frag} {a : Addr} {oe : Obj} {cls : Value} {d : Option Addr} {pn : List (Addr × Obj)} (hz : Zc cls d oe) (hf : ∃ vs, oe.data = .fields vs) (hK : X.K = K := by rfl) : CallR (X.suite a ((a, oe) :: pn)) (.builtin "isinstance") (rXis K a cls d) := by
  subst hK
  exact call_xis hz hf
end Ow
namespace Ow
open PySem PySem.Spec PyProof.Rows L2
section
variable {X : Cx} {K : PySem.W.Frag} {cls m x : Str} {p apos pos : Pos} {o e : Expr} {es : List Expr} {t : TA} {ta : TE} {ps : List Str} {k : Nat} {sp : Sp}
theorem pe_mtK {pl : Sem Bool} (F : MtAt X.prog X.w K X.mg X.base cls m ps k sp) (c : Cls K (He.ga K cls)) (hr : Room k X.A) (ho : PE X o ta) (ha : PA X (e :: es) t) (hK : X.K = K := by rfl)
    (hst : starEach (e :: es) X.env = (false, eval e X.env) :: starEach es X.env := by rfl) (hpl : (backTo pos (starEach es X.env)).any (·.1) = false := by rfl)
    (ht : eval (.Call (.Attribute o m apos) (e :: es) [] pos) X.env = (do
      let ov ← eval o X.env
      standAt apos.atName
      let (f, first) ← holding [ov] (getMethod ov m pl)
      callWith pos f first (backTo pos (starEach (e :: es) X.env)) (backToKw pos (keywordEach [] X.env))) := by rfl) :
    PE X (.Call (.Attribute o m apos) (e :: es) [] pos) (tMeth (He.ga K cls) m sp [] E0 ta t) := by
  subst hK
  exact pe_mt F c hr ho ha hst hpl ht
end
end Ow

/-! k03: the text by places -/
namespace Ow
open PySem PySem.Spec L2
abbrev Pr : Program := PySem.Challenge.pw_owedrebuilds_k03_schemas_refused
def top (i : Nat) : Stmt := Pr.main.body.getD i (.Pass ⟨0, 0, 0, 0⟩)
abbrev s_wall : Stmt := top 0
abbrev s_BadSchema___init__ : Stmt := inClass (top 3) 0
abbrev s_NoTable___init__ : Stmt := inClass (top 4) 0
abbrev s_NoColumn___init__ : Stmt := inClass (top 5) 0
abbrev s_is_word : Stmt := top 15
abbrev s_named_tables : Stmt := top 16
abbrev s_column_of : Stmt := top 17
abbrev s_read_tables : Stmt := top 18
abbrev s_Schema___init__ : Stmt := inClass (top 19) 0
abbrev s_Schema_columns : Stmt := inClass (top 19) 1
abbrev s_Schema_told : Stmt := inClass (top 19) 2
abbrev s_Schema_kind : Stmt := inClass (top 19) 3
abbrev s_Schema_target : Stmt := inClass (top 19) 4
abbrev s_Schema_rule : Stmt := inClass (top 19) 5
abbrev s_Schema_links_to : Stmt := inClass (top 19) 6
abbrev s_Schema___contains__ : Stmt := inClass (top 19) 7
abbrev s_Schema___len__ : Stmt := inClass (top 19) 8
abbrev s_Schema___eq__ : Stmt := inClass (top 19) 9
abbrev s_Schema___str__ : Stmt := inClass (top 19) 10
abbrev s_law_pool : Stmt := top 21
abbrev s_law_draw : Stmt := top 22
abbrev s_law_of : Stmt := top 23
abbrev s_law_letters : Stmt := top 24
abbrev s_law_word : Stmt := top 25
abbrev s_law_tables : Stmt := top 26
abbrev s_law_lines : Stmt := top 27
abbrev s_law_columns : Stmt := top 28
abbrev s_law_is_word : Stmt := top 29
abbrev s_law_is_column : Stmt := top 30
abbrev s_law_reading : Stmt := top 31
abbrev s_law_odd_word : Stmt := top 32
abbrev s_law_line_changed : Stmt := top 33
abbrev s_law_more : Stmt := top 34
abbrev s_law_changed : Stmt := top 35
abbrev s_law_outcome : Stmt := top 36
abbrev s_law : Stmt := top 37
end Ow

/-! k03: what the top has left -/
namespace Ow
open PySem PySem.Spec L2 NdefX
def fa1 : List He.Fa := [.free "len", .free "abs", .free "int", .free "range", .free "max", .free "min", .free "isinstance", .free "tuple", .free "repr", .free "all", .free "enumerate", .free "str", .free "any", .free "list", .free "super", .free "bool"]
def fa2 : List He.Fa := [.glo "_wall", .glo "is_word", .glo "named_tables", .glo "column_of", .glo "read_tables", .glo "_law_pool", .glo "_law_draw", .glo "_law_of", .glo "_law_letters", .glo "_law_word", .glo "_law_tables", .glo "_law_lines"]
def fa3 : List He.Fa := [.glo "_law_columns", .glo "_law_is_word", .glo "_law_is_column", .glo "_law_reading", .glo "_law_odd_word", .glo "_law_line_changed", .glo "_law_more", .glo "_law_changed", .glo "_law_outcome", .glo "law"]
def fa5 : List He.Fa := [.glo "Schema", .cls "Schema", .mkr "Schema", .noat "Schema" "text", .noat "Schema" "found", .noat "Schema" "tables", .str "LETTERS" LET, .int "MOST_TABLES" 5, .int "MOST_COLUMNS" 6, .str "VALUE" ("value" : Str), .str "FLAG" ("flag" : Str), .str "LINK" ("link" : Str), .glo "BARRED", .glo "RULES"]
def fa6 : List He.Fa := [.meth "Schema" "__init__", .meth "Schema" "columns"]
def fa7 : List He.Fa := [.glo "OwedError", .glo "BadSchema", .exm "BadSchema" "BadSchema" true]
def fa : List He.Fa := fa1 ++ (fa2 ++ (fa3 ++ (fa5 ++ (fa6 ++ (fa7)))))
def d_wall : He.DefD := ⟨("_wall", none), "_wall", "_wall", defArgs s_wall, defBody s_wall, defScope s_wall, [], []⟩
def d_is_word : He.DefD := ⟨("is_word", none), "is_word", "is_word", defArgs s_is_word, defBody s_is_word, defScope s_is_word, [], []⟩
def d_named_tables : He.DefD := ⟨("named_tables", none), "named_tables", "named_tables", defArgs s_named_tables, defBody s_named_tables, defScope s_named_tables, [], []⟩
def d_column_of : He.DefD := ⟨("column_of", none), "column_of", "column_of", defArgs s_column_of, defBody s_column_of, defScope s_column_of, [], []⟩
def d_read_tables : He.DefD := ⟨("read_tables", none), "read_tables", "read_tables", defArgs s_read_tables, defBody s_read_tables, defScope s_read_tables, [], []⟩
def d_law_pool : He.DefD := ⟨("_law_pool", none), "_law_pool", "_law_pool", defArgs s_law_pool, defBody s_law_pool, defScope s_law_pool, [], []⟩
def d_law_draw : He.DefD := ⟨("_law_draw", none), "_law_draw", "_law_draw", defArgs s_law_draw, defBody s_law_draw, defScope s_law_draw, [], []⟩
def d_law_of : He.DefD := ⟨("_law_of", none), "_law_of", "_law_of", defArgs s_law_of, defBody s_law_of, defScope s_law_of, [], []⟩
def d_law_letters : He.DefD := ⟨("_law_letters", none), "_law_letters", "_law_letters", defArgs s_law_letters, defBody s_law_letters, defScope s_law_letters, [], []⟩
def d_law_word : He.DefD := ⟨("_law_word", none), "_law_word", "_law_word", defArgs s_law_word, defBody s_law_word, defScope s_law_word, [], []⟩
def d_law_tables : He.DefD := ⟨("_law_tables", none), "_law_tables", "_law_tables", defArgs s_law_tables, defBody s_law_tables, defScope s_law_tables, [], []⟩
def d_law_lines : He.DefD := ⟨("_law_lines", none), "_law_lines", "_law_lines", defArgs s_law_lines, defBody s_law_lines, defScope s_law_lines, [], []⟩
def d_law_columns : He.DefD := ⟨("_law_columns", none), "_law_columns", "_law_columns", defArgs s_law_columns, defBody s_law_columns, defScope s_law_columns, [], []⟩
def d_law_is_word : He.DefD := ⟨("_law_is_word", none), "_law_is_word", "_law_is_word", defArgs s_law_is_word, defBody s_law_is_word, defScope s_law_is_word, [], []⟩
def d_law_is_column : He.DefD := ⟨("_law_is_column", none), "_law_is_column", "_law_is_column", defArgs s_law_is_column, defBody s_law_is_column, defScope s_law_is_column, [], []⟩
def d_law_reading : He.DefD := ⟨("_law_reading", none), "_law_reading", "_law_reading", defArgs s_law_reading, defBody s_law_reading, defScope s_law_reading, [], []⟩
def d_law_odd_word : He.DefD := ⟨("_law_odd_word", none), "_law_odd_word", "_law_odd_word", defArgs s_law_odd_word, defBody s_law_odd_word, defScope s_law_odd_word, [], []⟩
def d_law_line_changed : He.DefD := ⟨("_law_line_changed", none), "_law_line_changed", "_law_line_changed", defArgs s_law_line_changed, defBody s_law_line_changed, defScope s_law_line_changed, [], []⟩
def d_law_more : He.DefD := ⟨("_law_more", none), "_law_more", "_law_more", defArgs s_law_more, defBody s_law_more, defScope s_law_more, [], []⟩
def d_law_changed : He.DefD := ⟨("_law_changed", none), "_law_changed", "_law_changed", defArgs s_law_changed, defBody s_law_changed, defScope s_law_changed, [], []⟩
def d_law_outcome : He.DefD := ⟨("_law_outcome", none), "_law_outcome", "_law_outcome", defArgs s_law_outcome, defBody s_law_outcome, defScope s_law_outcome, [], []⟩
def d_law : He.DefD := ⟨("law", none), "law", "law", defArgs s_law, defBody s_law, defScope s_law, [], []⟩
def d_Schema___init__ : He.DefD := ⟨("Schema", some "__init__"), "__init__", "Schema.__init__", defArgs s_Schema___init__, defBody s_Schema___init__, defScope s_Schema___init__, [], []⟩
def d_Schema_columns : He.DefD := ⟨("Schema", some "columns"), "columns", "Schema.columns", defArgs s_Schema_columns, defBody s_Schema_columns, defScope s_Schema_columns, [], []⟩
def fn1 : List He.DefD := [d_wall, d_is_word, d_named_tables, d_column_of, d_read_tables, d_law_pool, d_law_draw, d_law_of, d_law_letters, d_law_word, d_law_tables, d_law_lines]
def fn2 : List He.DefD := [d_law_columns, d_law_is_word, d_law_is_column, d_law_reading, d_law_odd_word, d_law_line_changed, d_law_more, d_law_changed, d_law_outcome, d_law, d_Schema___init__, d_Schema_columns]
def fn : List He.DefD := fn1 ++ (fn2)
def m_BadSchema : MthD := ⟨"BadSchema", "__init__", "BadSchema.__init__", s_BadSchema___init__⟩
def mt : List MthD := [m_BadSchema]
def insB (K : PySem.W.Frag) : Bool := decide (PySem.W.findIn K (.ref (He.ga K "Schema")) "__class__" = some (some (.builtin "object.__class__"))) && (decide (PySem.W.specialIn K (.builtin "object.__class__") "__get__" = some (some (.builtin "getset_descriptor.__get__"))) &&
  (decide (PySem.W.takesIn K (.builtin "object.__class__") = some true) && (decide (PySem.W.mroIn K (He.ga K "Schema") (.type "object") = some true) && decide (PySem.W.kitOne K (.ref (He.ga K "Schema")) (.ref (He.ga K "Schema")) = some true))))
def othB (K : PySem.W.Frag) : Bool := ["NoneType", "str", "int", "tuple"].all fun T => decide (PySem.W.kitOne K (.type T) (.ref (He.ga K "Schema")) = some false) && PySem.W.notFirst K (He.ga K "Schema") (.type T)
def neB (K : PySem.W.Frag) : Bool := decide (PySem.W.findIn K (.ref (He.ga K "Schema")) "__ne__" = some (some (.builtin "object.__ne__"))) && decide (PySem.W.subIn K (.ref (He.ga K "Schema")) (.type "object") = some true)
def tupsB (K : PySem.W.Frag) : Bool := He.tupB K "BARRED" [.str ("key" : Str), .str ("self" : Str), .str ("table" : Str)] && He.tupB K "RULES" [.str ("refuse" : Str), .str ("clear" : Str), .str ("cascade" : Str)]
def schB (K : PySem.W.Frag) : Bool := tupsB K && (insB K && (othB K && neB K))
def xcB (K : PySem.W.Frag) : Bool := excB0 K && (excB Pr.main.file K "BadSchema" [("at" : Str)])
def ktB (K : PySem.W.Frag) : Bool := true
def exK (K : PySem.W.Frag) : Bool := schB K && (xcB K && ktB K)
abbrev R : PySem.W.OpenRow := PySem.W.OpenLaw.row PySem.Challenge.rw_owedrebuilds_k03_schemas_refused
abbrev hk : PySem.W.Hook := hookO 5 fa fn mt exK
def ob (s : PySem.W.SharedT) : AlO := obsO 5 fa fn mt exK (HandSHeadRun.getT s)
theorem ob_eq (s : PySem.W.SharedT) : ob s = hk.obs s.abs := obsO_eq (HandSHeadRun.getT_eq s)
def n0 : List Str := ["_wall", "OwedError", "BadSchema", "NoTable", "NoColumn", "LETTERS", "MOST_TABLES", "MOST_COLUMNS", "BARRED", "RULES", "VALUE", "FLAG"]
def n1 : List Str := ["LINK", "is_word", "named_tables", "column_of", "read_tables", "Schema", "_law_pool", "_law_draw", "_law_of", "_law_letters", "_law_word", "_law_tables"]
def n2 : List Str := ["_law_lines", "_law_columns", "_law_is_word", "_law_is_column", "_law_reading", "_law_odd_word", "_law_line_changed", "_law_more", "_law_changed", "_law_outcome"]
def nms : List Str := n0 ++ (n1 ++ (n2))
theorem run (w : World) : HandSHeadRun.RunEq R (PySem.W.view R.prog [37]) hk ob 100000 nms w := by
  intro os
  kernel_rfl
end Ow

/-! schemas, the program: is_word, named_tables, column_of -/
namespace Ow
open PySem PySem.Spec L2
section
variable {P : Program} {w : World} {K : PySem.W.Frag} {mg : Str → Option Value} {base : Heap}
theorem sc_is_word : FnScope [("thing" : Str), ("sign" : Str)] [("thing" : Str)] (defScope s_is_word) := ⟨rfl, rfl, rfl, by decide +kernel, rfl, by decide +kernel, by decide +kernel⟩
theorem ok_is_word (D : TopD K mg "is_word" s_is_word) (T : Blt mg) (M : ScC K mg) : FnAt P w K mg base "is_word" [("thing" : Str)] 1 spIsW := by
  refine fn_at D sc_is_word (fun _ _ _ _ _ _ us hl => match us, hl with | [_], _ => rfl) (fun vs H Q E h => ?_) (fun f cdv A outer s H vs Q E hr h => ?_)
  · obtain ⟨z, rfl, _⟩ := h
    rfl
  · obtain ⟨z, rfl, hz, k⟩ := h
    refine ⟨_, (pss_one (ps_ret (pe_and (pe_callB call_isi (by rfl) M.isinstance (by decide +kernel) (pa_cons (pv 0) (pa_cons (pe_bltn (v := .ty "str") (by rfl) M.str (by decide +kernel) rfl) pa_nil))) (pe_and (pe_chain op_le op_le pe_int (pe_callB call_len_str (by rfl) T.len PySem.boot_len (pa_cons (pv 0) pa_nil)) pe_int) (pe_one (pe_callB (cr_all rfl) (by rfl) M.all (by decide +kernel) (pa_cons (pe_lc (own := [(("sign" : Str), 1)]) (by rfl) sc_is_word.nd (pi_str (pv 0)) (blkOk_by (own := [(("sign" : Str), 1)]) (N := [("thing" : Str), ("sign" : Str)]) (sc := defScope s_is_word) (by decide +kernel)) (fun _ _ _ _ _ => pg_name (i := 1) sc_is_word.nd rfl (Or.inl rfl)) (fun _ _ _ _ _ => pts_nil) (fun _ _ _ _ _ => (pe_cmpR op_in_sign (pv 1) (pe_gs M.LETTERS (by rfl)) rfl))) pa_nil))))))), ?_⟩
    have hz2 : z.length ≤ sizeLine := by rw [sizeLine_eq]; omega
    refine ⟨_, rfl, _, _, _, _, true, rfl, .ty "str", .base (.str z), kit_ty (by decide +kernel), true, rfl, ?_⟩
    refine iteT ?_
    refine ⟨_, rfl, _, rfl, hz2, _, _, rfl, rfl, _, rfl, ?_⟩
    refine ite2 (fun h1 => ?_) (fun h1 => ?_)
    · have h1 : (1 : Int) ≤ (z.length : Int) := of_decide_eq_true h1
      refine ⟨_, _, rfl, rfl, _, rfl, ?_⟩
      refine ite2 (fun h2 => ?_) (fun h2 => ?_)
      · have h2 : (z.length : Int) ≤ 8 := of_decide_eq_true h2
        refine ⟨_, rfl, z, rfl, fun l hl => ?_⟩
        refine lc_it walk_str (fun i H' => ∃ bs : List Bool, H' l = some (.lst (bs.map V.bl)) ∧ bs = (z.cps.toList.take i).map (fun c => decide (c ∈ LET.cps.toList)) ∧ Same H H')
          ⟨[], upd_same, rfl, same_upd hl⟩ (fun _ _ _ _ => trivial) ?_ ?_
        · rintro i x H1 H2 hi ⟨bs, hl1, hb, s1⟩ ⟨rfl, c, hc, rfl⟩
          have hi2 : i < z.length := hi
          refine ⟨rfl, ?_⟩
          refine yes_ ?_
          refine ⟨_, rfl, c, LET, rfl, rfl, bs.map V.bl, hl1, ?_, bs ++ [decide (c ∈ LET.cps.toList)], ?_, ?_, ?_⟩
          · have e : bs.length ≤ i := by rw [hb, List.length_map, List.length_take]; omega
            rw [List.length_map, sizeLine_eq]
            omega
          · rw [upd_same, List.map_append]
            rfl
          · have e : z.cps.toList[i]? = some c := by rw [Array.getElem?_toList]; exact hc
            rw [List.take_add_one, e, List.map_append, hb]
            rfl
          · exact fun b o q => by rw [upd_ne (ne_of_none q hl)]; exact s1 b o q
        · rintro H1 ⟨bs, hl1, hb, s1⟩
          refine ⟨l, bs, rfl, SqL.of hl1, ?_⟩
          have e : bs.all id = isW z := by
            unfold isW
            have e1 : z.cps.toList.take z.cps.size = z.cps.toList := List.take_of_length_le (by simp)
            rw [hb, e1, List.all_map, decide_eq_true (show 1 ≤ z.length by omega), decide_eq_true (show z.length ≤ 8 by omega)]
            rfl
          rw [e]
          exact k _ s1
      · have h2 : ¬ (z.length : Int) ≤ 8 := fun q => h2 (decide_eq_true q)
        have e : isW z = false := by
          unfold isW
          rw [decide_eq_false (show ¬ z.length ≤ 8 by omega)]
          simp
        have q := k H (Same.refl H)
        rw [e] at q
        exact q
    · have h1 : ¬ (1 : Int) ≤ (z.length : Int) := fun q => h1 (decide_eq_true q)
      refine ⟨_, rfl, ?_⟩
      refine iteF ?_
      have e : isW z = false := by
        unfold isW
        rw [decide_eq_false (show ¬ 1 ≤ z.length by omega)]
        rfl
      have q := k H (Same.refl H)
      rw [e] at q
      exact q
theorem sc_named_tables : FnScope [("lines" : Str), ("found" : Str), ("line" : Str), ("words" : Str)] [("lines" : Str)] (defScope s_named_tables) := ⟨rfl, rfl, rfl, by decide +kernel, rfl, by decide +kernel, by decide +kernel⟩
theorem ok_named (D : TopD K mg "named_tables" s_named_tables) (T : Blt mg) (M : ScC K mg) (F_is_word : FnAt P w K mg base "is_word" [("thing" : Str)] 1 spIsW) : FnAt P w K mg base "named_tables" [("lines" : Str)] 2 (spNamed K) := by
  refine fn_at D sc_named_tables (fun _ _ _ _ _ _ us hl => match us, hl with | [_], _ => rfl) (fun vs H Q E h => ?_) (fun f cdv A outer s H vs Q E hr h => ?_)
  · obtain ⟨l, ls, rfl, _⟩ := h
    rfl
  · obtain ⟨l, ls, rfl, hS, ⟨hn, hz⟩, k⟩ := h
    refine ⟨_, (pss_cons (ps_set (i := 1) sc_named_tables.nd rfl (Or.inl rfl) (pe_lst pa_nil))
      (pss_cons (ps_for PassesOwn.never rfl (pi_list (pv 0)) (pg_name (i := 2) sc_named_tables.nd rfl (Or.inl rfl))
      (pss_cons (ps_set (i := 3) sc_named_tables.nd rfl (Or.inl rfl) (pe_split (pv 2) pe_str))
      (pss_one (ps_if (PW.pt (pw_and (pt_cmpR op_eq (pe_callB call_len_seq (by rfl) T.len PySem.boot_len (pa_cons (pv 3) pa_nil)) pe_int (nomark _)) (pw_and (pt_cmpR op_eq (pe_ix ix_list (pv 3) pe_int (fun _ _ => rfl)) pe_str (nomark _)) (pw_and1 (pt_val (pe_fn F_is_word (hr.mono (by decide)) (by rfl) (pa_cons (pe_ix ix_list (pv 3) pe_int (fun _ _ => rfl)) pa_nil)))))))
      (pss_one (ps_expr (pe_bm PySem.F.plainAttrs_list PySem.F.slot_list_append PySem.F.type_list_append mt_append (pv 1) (pa_cons (pe_ix ix_list (pv 3) pe_int (fun _ _ => rfl)) pa_nil))))
      pss_nil))))
      (pss_one (ps_ret (pv 1))))), ?_⟩
    refine ⟨by show 0 ≤ sizeLine; decide, fun p hp => ?_⟩
    have s0 : Same H (upd H p (.lst [])) := same_upd hp
    refine ⟨_, rfl, l, rfl, ⟨_, s0.seq hS⟩, ?_⟩
    refine for_list (K := K) (a := l) (xs := ls.map V.str) (fun i σ H' => ∃ (u v : Option V) (fs : List Str), σ = [some (.ref l), some (.ref p), u, v] ∧ Same H H' ∧ fs = named (ls.take i) ∧ H' p = some (.lst (fs.map V.str)))
      ⟨_, _, [], rfl, s0, rfl, upd_same⟩ (fun i σ H' _ ⟨_, _, _, _, s1, _, _⟩ => s1.seq hS) ?_ ?_
    · rintro i x σ H1 hx ⟨u, v, fs, rfl, s1, hf, hp1⟩
      rw [List.getElem?_map] at hx
      obtain ⟨line, hx2, rfl⟩ := Option.map_eq_some_iff.mp hx
      clear hx
      have hx := hx2
      have hi : i < ls.length := (List.getElem?_eq_some_iff.mp hx).1
      have hlz := hz line (List.mem_of_getElem? hx)
      have hfl : fs.length ≤ i := by
        rw [hf]
        unfold named
        refine Nat.le_trans (List.length_filterMap_le _ _) ?_
        rw [List.length_take]
        omega
      have enx : named (ls.take (i + 1)) = fs ++ (nmOf line).toList := by
        unfold named at hf ⊢
        rw [List.take_add_one, hx, List.filterMap_append, hf]
        show _ ++ List.filterMap nmOf [line] = _
        rw [List.filterMap_cons]
        cases nmOf line <;> rfl
      refine ⟨_, rfl, ⟨_, rfl⟩, line, _, rfl, rfl, by decide +kernel, by rw [sizeLine_eq]; omega, fun q hq => ?_⟩
      have nqp : p ≠ q := ne_of_none hp1 hq
      have s2 : Same H (upd H1 q (.lst ((wsOf line).map V.str))) := s1.trans (same_upd hq)
      have hp2 : upd H1 q (.lst ((wsOf line).map V.str)) p = some (.lst (fs.map V.str)) := by rw [upd_ne nqp]; exact hp1
      have hq2 : upd H1 q (.lst ((wsOf line).map V.str)) q = some (.lst ((wsOf line).map V.str)) := upd_same
      have w0 : 0 < (wsOf line).length := List.length_pos_iff.mpr (ws_ne line)
      have no : nmOf line = none → ∀ H', Same H H' → H' p = some (.lst (fs.map V.str)) → ∃ (u v : Option V) (fs : List Str), ([some (V.ref l), some (.ref p), some (.str line), some (.ref q)] : L2.St) = [some (.ref l), some (.ref p), u, v] ∧ Same H H' ∧ fs = named (ls.take (i + 1)) ∧ H' p = some (.lst (fs.map V.str)) :=
        fun e H' s h => ⟨_, _, fs, rfl, s, by rw [enx, e]; exact (List.append_nil fs).symm, h⟩
      have noif : ¬ (((wsOf line).length == 2) && ((wd (wsOf line) 0 == ("table" : Str)) && isW (wd (wsOf line) 1))) = true → nmOf line = none := fun e => by unfold nmOf; rw [if_neg e]
      refine ⟨_, rfl, q, _, rfl, .inl (SqL.of hq2), rfl, _, rfl, ?_⟩
      refine ite2 (fun h1 => ?_) (fun h1 => ?_)
      · have h1 : (V.int (((wsOf line).map V.str).length : Int)) = V.int 2 := of_decide_eq_true h1
        have h1 : (wsOf line).length = 2 := by
          injection h1 with h1
          rw [List.length_map] at h1
          omega
        refine ⟨_, rfl, q, _, _, _, rfl, rfl, SqL.of hq2, wd_at w0, rfl, _, rfl, ?_⟩
        refine ite2 (fun h2 => ?_) (fun h2 => ?_)
        · have h2 : V.str (wd (wsOf line) 0) = V.str ("table" : Str) := of_decide_eq_true h2
          have h2 : wd (wsOf line) 0 = ("table" : Str) := by
            injection h2
          have hw1 : 1 < (wsOf line).length := by omega
          have hm1 := ws_len (wd_mem hw1)
          refine ⟨_, rfl, q, _, _, _, rfl, rfl, SqL.of hq2, wd_at hw1, _, rfl, Nat.le_trans hm1 hlz, fun H3 s3 => ?_⟩
          refine ⟨_, rfl, ?_⟩
          refine ite2 (fun h3 => ?_) (fun h3 => ?_)
          · have hsm : nmOf line = some (wd (wsOf line) 1) := by
              unfold nmOf
              rw [if_pos]
              rw [h1, h2, h3]
              decide
            have hp3 := s3 _ _ hp2
            refine ⟨_, rfl, .inl ⟨rfl, _, SqL.of hp3⟩, _, rfl, q, _, _, _, rfl, rfl, SqL.of (s3 _ _ hq2), wd_at hw1, p, _, _, rfl, rfl, hp3, ?_, ?_⟩
            · rw [List.length_map, sizeLine_eq]
              omega
            · refine ⟨_, _, fs ++ [wd (wsOf line) 1], rfl, ?_, ?_, ?_⟩
              · exact fun b o e => by rw [upd_ne (ne_of_none e hp)]; exact s3 _ _ (s2 _ _ e)
              · rw [enx, hsm]
                rfl
              · rw [upd_same, List.map_append]
                rfl
          · refine no (noif fun z => ?_) _ (s2.trans s3) (s3 _ _ hp2)
            simp only [Bool.and_eq_true] at z
            exact h3 z.2.2
        · refine no (noif fun z => ?_) _ s2 hp2
          simp only [Bool.and_eq_true, beq_iff_eq] at z
          exact h2 (decide_eq_true (by rw [z.2.1]))
      · refine no (noif fun z => ?_) _ s2 hp2
        simp only [Bool.and_eq_true, beq_iff_eq] at z
        exact h1 (decide_eq_true (by rw [List.length_map, z.1] <;> rfl))
    · rintro σ H1 ⟨u, v, fs, rfl, s1, hf, hp1⟩
      refine ⟨_, rfl, ?_⟩
      rw [List.length_map, List.take_length] at hf
      rw [hf] at hp1
      exact k _ _ s1 hp hp1
theorem sc_column_of : FnScope [("words" : Str), ("names" : Str)] [("words" : Str), ("names" : Str)] (defScope s_column_of) := ⟨rfl, rfl, rfl, by decide +kernel, rfl, by decide +kernel, by decide +kernel⟩
theorem ok_col (D : TopD K mg "column_of" s_column_of) (T : Blt mg) (M : ScC K mg) (F_is_word : FnAt P w K mg base "is_word" [("thing" : Str)] 1 spIsW) : FnAt P w K mg base "column_of" [("words" : Str), ("names" : Str)] 2 (spColOf K) := by
  refine fn_at D sc_column_of (fun _ _ _ _ _ _ us hl => match us, hl with | [_, _], _ => rfl) (fun vs H Q E h => ?_) (fun f cdv A outer s H vs Q E hr h => ?_)
  · obtain ⟨l, m, ws, ns, rfl, _⟩ := h
    rfl
  · obtain ⟨l, m, ws, ns, rfl, hl, hm, hz, k0, k1⟩ := h
    refine ⟨_, (pss_cons (ps_if (PW.pt (pw_or (pt_cmpR op_lt (pe_callB call_len_seq (by rfl) T.len PySem.boot_len (pa_cons (pv 0) pa_nil)) pe_int (nomark _)) (pw_or (pt_not (pt_val (pe_fn F_is_word (hr.mono (by decide)) (by rfl) (pa_cons (pe_ix ix_list (pv 0) pe_int (fun _ _ => rfl)) pa_nil)))) (pw_or1 (pt_cmpR op_in_seq (pe_ix ix_list (pv 0) pe_int (fun _ _ => rfl)) (pe_gt (K := K) M.BARRED (by rfl)) rfl)))))
      (pss_one (ps_ret pe_non))
      pss_nil)
      (pss_cons (ps_if (PW.pt (pw_and (pt_cmpR op_eq (pe_callB call_len_seq (by rfl) T.len PySem.boot_len (pa_cons (pv 0) pa_nil)) pe_int (nomark _)) (pw_and1 (pt_cmpR op_in_seq (pe_ix ix_list (pv 0) pe_int (fun _ _ => rfl)) (pe_tup (pa_cons (pe_gs M.VALUE (by rfl)) (pa_cons (pe_gs M.FLAG (by rfl)) pa_nil))) rfl))))
      (pss_one (ps_ret (pe_tup (pa_cons (pe_ix ix_list (pv 0) pe_int (fun _ _ => rfl)) (pa_cons (pe_tup (pa_cons (pe_ix ix_list (pv 0) pe_int (fun _ _ => rfl)) (pa_cons pe_non (pa_cons pe_non pa_nil)))) pa_nil)))))
      pss_nil)
      (pss_cons (ps_if (PW.pt (pw_and (pt_cmpR op_eq (pe_callB call_len_seq (by rfl) T.len PySem.boot_len (pa_cons (pv 0) pa_nil)) pe_int (nomark _)) (pw_and (pt_cmpR op_eq (pe_ix ix_list (pv 0) pe_int (fun _ _ => rfl)) (pe_gs M.LINK (by rfl)) (nomark _)) (pw_and (pt_cmpR op_in_seq (pe_ix ix_list (pv 0) pe_int (fun _ _ => rfl)) (pv 1) rfl) (pw_and1 (pt_cmpR op_in_seq (pe_ix ix_list (pv 0) pe_int (fun _ _ => rfl)) (pe_gt (K := K) M.RULES (by rfl)) rfl))))))
      (pss_one (ps_ret (pe_tup (pa_cons (pe_ix ix_list (pv 0) pe_int (fun _ _ => rfl)) (pa_cons (pe_tup (pa_cons (pe_gs M.LINK (by rfl)) (pa_cons (pe_ix ix_list (pv 0) pe_int (fun _ _ => rfl)) (pa_cons (pe_ix ix_list (pv 0) pe_int (fun _ _ => rfl)) pa_nil)))) pa_nil)))))
      pss_nil)
      (pss_one (ps_ret pe_non))))), ?_⟩
    refine ⟨_, rfl, l, _, rfl, .inl hl, _, _, rfl, rfl, _, rfl, ?_⟩
    refine ite2 (fun h1 => ?_) (fun h1 => ?_)
    · have h1 : (((ws.map V.str).length : Nat) : Int) < 2 := of_decide_eq_true h1
      rw [List.length_map] at h1
      refine k0 ?_ _ (Same.refl H)
      unfold colOf
      rw [if_pos (.inl (by omega))]
    have h1 : ¬ (((ws.map V.str).length : Nat) : Int) < 2 := fun q => h1 (decide_eq_true q)
    rw [List.length_map] at h1
    have w1 : 1 < ws.length := by omega
    have w0 : 0 < ws.length := by omega
    refine ⟨_, rfl, l, _, _, _, rfl, rfl, hl, wd_at w1, _, rfl, hz _ (wd_mem w1), fun H1 s1 => ?_⟩
    refine ⟨_, rfl, ?_⟩
    have hl1 := s1.seq hl
    have hm1 := s1.seq hm
    cases h2 : isW (wd ws 1) with
    | false =>
      refine iteT ?_
      refine k0 ?_ _ s1
      unfold colOf
      rw [if_pos (.inr (.inl h2))]
    | true =>
    refine iteF ?_
    refine ⟨_, rfl, l, _, _, _, rfl, rfl, hl1, wd_at w1, fun ba hba => ?_⟩
    refine ⟨ba, _, rfl, .inr (hba _), rfl, flat_strs BAR, _, rfl, ?_⟩
    show if (inV (.str (wd ws 1)) (BAR.map V.str)) = true then _ else _
    rw [inV_str]
    refine ite2 (fun h3 => ?_) (fun h3 => ?_)
    · refine k0 ?_ _ s1
      unfold colOf
      rw [if_pos (.inr (.inr (of_decide_eq_true h3)))]
    have h3 : ¬ wd ws 1 ∈ BAR := fun q => h3 (decide_eq_true q)
    have n1 : ¬ (ws.length < 2 ∨ isW (wd ws 1) = false ∨ wd ws 1 ∈ BAR) := by
      rintro (q | q | q)
      · omega
      · rw [h2] at q
        cases q
      · exact h3 q
    refine ⟨_, rfl, l, _, rfl, .inl hl1, rfl, _, rfl, ?_⟩
    refine ite2 (fun h4 => ?_) (fun h4 => ?_)
    · have h4 : (V.int ((ws.map V.str).length : Int)) = V.int 2 := of_decide_eq_true h4
      have h4 : ws.length = 2 := by
        injection h4 with h4
        rw [List.length_map] at h4
        omega
      refine ⟨_, rfl, l, _, _, _, rfl, rfl, hl1, wd_at w0, by show 2 ≤ sizeLine; decide, fun t ht => ?_⟩
      have s2 : Same H (upd H1 t (.tup [V.str ("value" : Str), V.str ("flag" : Str)])) := s1.trans (same_upd ht)
      have hl2 := s2.seq hl
      refine ⟨t, _, rfl, .inr (SqT.of upd_same), rfl, rfl, _, rfl, ?_⟩
      show if (inV (.str (wd ws 0)) ([("value" : Str), ("flag" : Str)].map V.str)) = true then _ else _
      rw [inV_str]
      refine ite2 (fun h5 => ?_) (fun h5 => ?_)
      · have h5 : wd ws 0 ∈ [("value" : Str), ("flag" : Str)] := of_decide_eq_true h5
        have h5 : wd ws 0 = ("value" : Str) ∨ wd ws 0 = ("flag" : Str) := by simpa using h5
        have e : colOf ws ns = some ⟨wd ws 1, wd ws 0, none, none⟩ := by
          unfold colOf
          rw [if_neg n1, if_pos ⟨h4, h5⟩]
        refine ⟨_, rfl, l, _, _, _, rfl, rfl, hl2, wd_at w1, _, rfl, l, _, _, _, rfl, rfl, hl2, wd_at w0, by show 3 ≤ sizeLine; decide, fun t2 h2t => ?_⟩
        have s3 := s2.trans (same_upd (o := .tup [V.str (wd ws 0), V.non, V.non]) h2t)
        refine ⟨by show 2 ≤ sizeLine; decide, fun t3 h3t => ?_⟩
        refine k1 _ e _ t3 t2 (s3.trans (same_upd h3t)) upd_same ?_
        rw [upd_ne (ne_of_none upd_same h3t), upd_same]
        rfl
      · have h5 : ¬ wd ws 0 ∈ [("value" : Str), ("flag" : Str)] := fun q => h5 (decide_eq_true q)
        have h5 : ¬ (wd ws 0 = ("value" : Str) ∨ wd ws 0 = ("flag" : Str)) := fun q => h5 (by simpa using q)
        refine ⟨_, rfl, l, _, rfl, .inl hl2, rfl, _, rfl, ?_⟩
        refine ite2 (fun h6 => ?_) (fun h6 => ?_)
        · have h6 : (V.int ((ws.map V.str).length : Int)) = V.int 4 := of_decide_eq_true h6
          injection h6 with h6
          rw [List.length_map] at h6
          omega
        · refine k0 ?_ _ s2
          unfold colOf
          rw [if_neg n1, if_neg (fun q => h5 q.2), if_neg]
          rintro ⟨q, _⟩
          omega
    · have h4 : ¬ (V.int ((ws.map V.str).length : Int)) = V.int 2 := fun q => h4 (decide_eq_true q)
      have h4 : ¬ ws.length = 2 := fun q => h4 (by rw [List.length_map, q] <;> rfl)
      refine ⟨_, rfl, l, _, rfl, .inl hl1, rfl, _, rfl, ?_⟩
      refine ite2 (fun h6 => ?_) (fun h6 => ?_)
      · have h6 : (V.int ((ws.map V.str).length : Int)) = V.int 4 := of_decide_eq_true h6
        have h6 : ws.length = 4 := by
          injection h6 with h6
          rw [List.length_map] at h6
          omega
        have w2 : 2 < ws.length := by omega
        have w3 : 3 < ws.length := by omega
        refine ⟨_, rfl, l, _, _, _, rfl, rfl, hl1, wd_at w0, rfl, _, rfl, ?_⟩
        refine ite2 (fun h7 => ?_) (fun h7 => ?_)
        · have h7 : V.str (wd ws 0) = V.str ("link" : Str) := of_decide_eq_true h7
          have h7 : wd ws 0 = ("link" : Str) := by injection h7
          refine ⟨_, rfl, l, _, _, _, rfl, rfl, hl1, wd_at w2, _, rfl, m, _, rfl, .inl hm1, rfl, flat_strs ns, _, rfl, ?_⟩
          show if (inV (.str (wd ws 2)) (ns.map V.str)) = true then _ else _
          rw [inV_str]
          refine ite2 (fun h8 => ?_) (fun h8 => ?_)
          · have h8 : wd ws 2 ∈ ns := of_decide_eq_true h8
            refine ⟨_, rfl, l, _, _, _, rfl, rfl, hl1, wd_at w3, fun ru hru => ?_⟩
            refine ⟨ru, _, rfl, .inr (hru _), rfl, flat_strs RUL, _, rfl, ?_⟩
            show if (inV (.str (wd ws 3)) (RUL.map V.str)) = true then _ else _
            rw [inV_str]
            refine ite2 (fun h9 => ?_) (fun h9 => ?_)
            · have h9 : wd ws 3 ∈ RUL := of_decide_eq_true h9
              have e : colOf ws ns = some ⟨wd ws 1, ("link" : Str), some (wd ws 2), some (wd ws 3)⟩ := by
                unfold colOf
                rw [if_neg n1, if_neg (fun q => h4 q.1), if_pos ⟨h6, h7, h8, h9⟩]
              refine ⟨_, rfl, l, _, _, _, rfl, rfl, hl1, wd_at w1, _, rfl, l, _, _, _, rfl, rfl, hl1, wd_at w2, _, rfl, l, _, _, _, rfl, rfl, hl1, wd_at w3, by show 3 ≤ sizeLine; decide, fun t2 h2t => ?_⟩
              refine ⟨by show 2 ≤ sizeLine; decide, fun t3 h3t => ?_⟩
              refine k1 _ e _ t3 t2 ((s1.trans (same_upd h2t)).trans (same_upd h3t)) upd_same ?_
              rw [upd_ne (ne_of_none upd_same h3t), upd_same]
              rfl
            · refine k0 ?_ _ s1
              unfold colOf
              rw [if_neg n1, if_neg (fun q => h4 q.1), if_neg (fun q => h9 (decide_eq_true q.2.2.2))]
          · refine k0 ?_ _ s1
            unfold colOf
            rw [if_neg n1, if_neg (fun q => h4 q.1), if_neg (fun q => h8 (decide_eq_true q.2.2.1))]
        · refine k0 ?_ _ s1
          unfold colOf
          rw [if_neg n1, if_neg (fun q => h4 q.1), if_neg (fun q => h7 (decide_eq_true (by rw [q.2.1])))]
      · refine k0 ?_ _ s1
        unfold colOf
        rw [if_neg n1, if_neg (fun q => h4 q.1), if_neg (fun q => h6 (decide_eq_true (by rw [List.length_map, q.1] <;> rfl)))]
end
end Ow

/-! schemas, the program: read_tables, raising -/
namespace Ow
open PySem PySem.Spec L2
/-- what the top says of the errors -/
structure ExF (P : Program) (K : PySem.W.Frag) (mg : Str → Option Value) : Prop where
  BadSchema : ClsAt P K mg "BadSchema" "BadSchema.__init__" s_BadSchema___init__ [("at" : Str)]
  gBadSchema : mg "BadSchema" = some (.ref (He.ga K "BadSchema"))
  fbool : mg "bool" = none
  bb : PySem.W.exmOne K (.ref (He.ga K "BadSchema")) (.ref (He.ga K "BadSchema")) = some true
/-- BadSchema(i) is raised -/
def xBS (K : PySem.W.Frag) (i : Int) (H : Hp) (E : XK) : Prop := ∀ H' d, Same H H' → H' d = some (.xd [(("at" : Str), .int i)]) → E (.ref (He.ga K "BadSchema")) (some d) H'
def spReadX (K : PySem.W.Frag) : Sp := fun vs H Q E => ∃ (l : Addr) (ls : List Str), vs = [.ref l] ∧ SqL K H l (ls.map V.str) ∧ Short ls ∧ (∀ i, readT (named ls) ls [] 0 = .error i → xBS K (i : Nat) H E) ∧
  ∀ ts, readT (named ls) ls [] 0 = .ok ts → ∀ H' d o kvs, Same H H' → H' d = some (.frz o (.dK kvs)) → Tabs H' kvs ts → Q (.ref d) H'
theorem addCol_bad : ∀ {acc : List Tab} {n : Str} {cs : List Col} {c : Col}, (c.name ∈ cs.map Col.name ∨ cs.length = 6) → addCol (acc ++ [(n, cs)]) c = none
  | [], n, cs, c, h => by
    show (if c.name ∈ cs.map Col.name ∨ cs.length = 6 then none else some [(n, cs ++ [c])]) = none
    rw [if_pos h]
  | [t], n, cs, c, h => by
    have ih := addCol_bad (acc := []) (n := n) h
    show (addCol ([] ++ [(n, cs)]) c).map (t :: ·) = none
    rw [ih] <;> rfl
  | t :: t' :: r, n, cs, c, h => by
    have ih := addCol_bad (acc := t' :: r) (n := n) h
    show (addCol ((t' :: r) ++ [(n, cs)]) c).map (t :: ·) = none
    rw [ih] <;> rfl
section
variable {P : Program} {w : World} {K : PySem.W.Frag} {mg : Str → Option Value} {base : Heap}
theorem sc_read_tables : FnScope [("lines" : Str), ("names" : Str), ("tables" : Str), ("last" : Str), ("at" : Str), ("line" : Str), ("words" : Str), ("read" : Str)] [("lines" : Str)] (defScope s_read_tables) := ⟨rfl, rfl, rfl, by decide +kernel, rfl, by decide +kernel, by decide +kernel⟩
/-- while the lines are read -/
def RdI (H : Hp) (l nm td : Addr) (ls : List Str) (fin : Except Nat (List Tab)) (i : Nat) (σ : L2.St) (H' : Hp) : Prop := ∃ (x4 x5 x6 x7 : Option V) (ts : List Tab) (kvs : List (Key × V)),
  σ = [some (.ref l), some (.ref nm), some (.ref td), some (lastV ts), x4, x5, x6, x7] ∧ Same H H' ∧ H' nm = some (.lst ((named ls).map V.str)) ∧ H' td = some (.dK kvs) ∧ Tabs0 H' kvs ts ∧ ¬ Ads kvs td ∧ (∀ b, Ads kvs b → H b = none) ∧
  (ts.map Prod.fst).Nodup ∧ (ts.length ≤ 5 ∧ ∀ t ∈ ts, t.2.length ≤ 6) ∧ readT (named ls) (ls.drop i) ts i = fin
theorem ok_read (D : TopD K mg "read_tables" s_read_tables) (T : Blt mg) (M : ScC K mg) (C : ExF P K mg) (F_is_word : FnAt P w K mg base "is_word" [("thing" : Str)] 1 spIsW) (F_named : FnAt P w K mg base "named_tables" [("lines" : Str)] 2 (spNamed K)) (F_col : FnAt P w K mg base "column_of" [("words" : Str), ("names" : Str)] 2 (spColOf K)) :
    FnAtX P w K mg base "read_tables" [("lines" : Str)] 3 (spReadX K) := by
  refine fn_atX D sc_read_tables (fun _ _ _ _ _ _ us hl => match us, hl with | [_], _ => rfl) (fun vs H Q E h => ?_) (fun f cdv A outer s H vs Q E hr h => ?_)
  · obtain ⟨l, ls, rfl, _⟩ := h
    rfl
  · obtain ⟨l, ls, rfl, hS, hsh, kE, k⟩ := h
    obtain ⟨fin, hrd⟩ : ∃ r, readT (named ls) ls [] 0 = r := ⟨_, rfl⟩
    refine ⟨_, (pss_cons (ps_set (i := 1) sc_read_tables.nd rfl (Or.inl rfl) (pe_fn F_named (hr.mono (by decide)) (by rfl) (pa_cons (pv 0) pa_nil)))
      (pss_cons (ps_par (i := 2) (j := 3) (by rfl) sc_read_tables.nd rfl rfl (by decide) rfl rfl (pa_cons pe_dnewK (pa_cons pe_non pa_nil)) (by rfl))
      (pss_cons (ps_for (passes_of rfl) rfl (pi_enum (by rfl) M.enumerate (pa_cons (pv 0) pa_nil)) (pg_tup rfl (pgs_cons (pg_name (i := 4) sc_read_tables.nd rfl (Or.inl rfl)) (pgs_cons (pg_name (i := 5) sc_read_tables.nd rfl (Or.inl rfl)) pgs_nil)))
      (pss_cons (ps_set (i := 6) sc_read_tables.nd rfl (Or.inl rfl) (pe_split (pv 5) pe_str))
      (pss_cons (ps_if (pt_cmpR op_eq (pe_ix ix_list (pv 6) pe_int (fun _ _ => rfl)) pe_str (nomark _))
      (pss_cons (ps_if (PW.pt (pw_or (pt_cmpR op_ne (pe_callB call_len_seq (by rfl) T.len PySem.boot_len (pa_cons (pv 6) pa_nil)) pe_int (nomark _)) (pw_or (pt_not (pt_val (pe_fn F_is_word (hr.mono (by decide)) (by rfl) (pa_cons (pe_ix ix_list (pv 6) pe_int (fun _ _ => rfl)) pa_nil)))) (pw_or (pt_cmp (pc_din (hu_of hr) (pe_ix ix_list (pv 6) pe_int (fun _ _ => rfl)) (pv 2))) (pw_or1 (pt_cmpR op_eq (pe_callB call_lenD (by rfl) T.len PySem.boot_len (pa_cons (pv 2) pa_nil)) (pe_gi M.MOST_TABLES (by rfl)) (nomark _)))))))
      (pss_one (ps_raise rfl (takes_of rfl rfl rfl rfl) (pmk_x C.BadSchema (fun _ _ _ _ _ _ _ u us ws h1 h2 => match us, ws, h1, h2 with | [_], [], _, _ => rfl) (hr.mono (by decide)) (by rfl) (pa_cons (pv 4) pa_nil))))
      pss_nil)
      (PSs.nox (pss_cons (ps_set (i := 3) sc_read_tables.nd rfl (Or.inl rfl) (pe_ix ix_list (pv 6) pe_int (fun _ _ => rfl)))
      (pss_cons (ps_dput (hu_of hr) (pv 2) (pv 3) pe_dnewK rfl)
      (pss_one ps_continue)))))
      pss_nil)
      (pss_cons (ps_set (i := 7) sc_read_tables.nd rfl (Or.inl rfl) (pe_fn F_col (hr.mono (by decide)) (by rfl) (pa_cons (pv 6) (pa_cons (pv 1) pa_nil))))
      (pss_cons (ps_if (PW.pt (pw_or (pt_cmpR op_isN (pv 7) pe_non (nomark _)) (pw_or (pt_cmpR op_isN (pv 3) pe_non (nomark _)) (pw_or (pt_cmp (pc_din (hu_of hr) (pe_ix ix_tup (pv 7) pe_int (fun _ _ => rfl)) (pe_dget (hu_of hr) (pv 2) (pv 3) (fun _ _ => rfl)))) (pw_or1 (pt_cmpR op_eq (pe_callB call_lenD (by rfl) T.len PySem.boot_len (pa_cons (pe_dget (hu_of hr) (pv 2) (pv 3) (fun _ _ => rfl)) pa_nil)) (pe_gi M.MOST_COLUMNS (by rfl)) (nomark _)))))))
      (pss_one (ps_raise rfl (takes_of rfl rfl rfl rfl) (pmk_x C.BadSchema (fun _ _ _ _ _ _ _ u us ws h1 h2 => match us, ws, h1, h2 with | [_], [], _, _ => rfl) (hr.mono (by decide)) (by rfl) (pa_cons (pv 4) pa_nil))))
      pss_nil)
      (PSs.nox (pss_one (ps_dput (hu_of hr) (pe_dget (hu_of hr) (pv 2) (pv 3) (fun _ _ => rfl)) (pe_ix ix_tup (pv 7) pe_int (fun _ _ => rfl)) (pe_ix ix_tup (pv 7) pe_int (fun _ _ => rfl)) rfl))))))))
      (PSs.nox (pss_one (ps_ret (pe_frz (pv 2)))))))), ?_⟩
    refine ⟨_, rfl, l, ls, rfl, hS, hsh, fun H1 nm s1 hnm hn1 => ?_⟩
    intro td hd
    refine ⟨_, _, rfl, ?_⟩
    have n1d : td ≠ nm := fun z => by rw [z, hn1] at hd; cases hd
    have hd0 : H td = none := by
      cases e : H td with
      | none => rfl
      | some o => rw [s1 _ _ e] at hd; cases hd
    have s2 : Same H (upd H1 td (.dK [])) := s1.trans (same_upd hd)
    refine ⟨_, rfl, l, _, rfl, s2.seq hS, ?_⟩
    refine for_it (walk_enum (K := K) (a := l) (xs := ls.map V.str)) (RdI H l nm td ls fin)
      ⟨_, _, _, _, [], [], rfl, s2, by rw [upd_ne n1d.symm]; exact hn1, upd_same, .nil, (fun ⟨_, z, _⟩ => nomatch z), (fun _ ⟨_, z, _⟩ => nomatch z), .nil, ⟨by simp, (fun _ z => nomatch z)⟩, hrd⟩
      (fun i σ H' _ ⟨_, _, _, _, _, _, _, s3, _⟩ => s3.seq hS) ?_ ?_
    · rintro i x σ H2 H3 hi ⟨x4, x5, x6, x7, ts, kvs, rfl, s3, hnm3, htd3, tb3, nad, fre, nod, few, hrd3⟩ ⟨tp, xi, xl, rfl, htp, rfl, e1, e2⟩
      cases e1
      have e2 : (ls.map V.str)[i]? = some xl := e2
      rw [List.getElem?_map] at e2
      obtain ⟨line, hx, rfl⟩ := Option.map_eq_some_iff.mp e2
      clear e2
      rw [List.length_map] at hi
      have hlz := hsh.2 line (List.mem_of_getElem? hx)
      have edr : ls.drop i = line :: ls.drop (i + 1) := by
        rw [List.drop_eq_getElem_cons hi]
        rw [List.getElem?_eq_getElem hi] at hx
        cases hx
        rfl
      rw [edr] at hrd3
      unfold readT at hrd3
      have st4 := same_upd (o := .tup [V.int (i : Nat), V.str line]) htp
      refine ⟨tp, _, rfl, SqT.of upd_same, rfl, _, _, rfl, _, _, rfl, rfl, ?_⟩
      refine ⟨_, rfl, ⟨_, rfl⟩, line, _, rfl, rfl, by decide +kernel, by rw [sizeLine_eq]; omega, fun q hq => ?_⟩
      have st5 := st4.trans (same_upd (o := .lst ((wsOf line).map V.str)) hq)
      have hq5 : upd (upd H2 tp (.tup [V.int (i : Nat), V.str line])) q (.lst ((wsOf line).map V.str)) q = some (.lst ((wsOf line).map V.str)) := upd_same
      have s5 := s3.trans st5
      have hnm5 := st5 _ _ hnm3
      have htd5 := st5 _ _ htd3
      have tb5 := tb3.same st5
      have w0 : 0 < (wsOf line).length := List.length_pos_iff.mpr (ws_ne line)
      refine ⟨_, rfl, q, _, _, _, rfl, rfl, SqL.of hq5, wd_at w0, rfl, _, rfl, ?_⟩
      refine ite2 (fun h1 => ?_) (fun h1 => ?_)
      · have h1 : V.str (wd (wsOf line) 0) = V.str ("table" : Str) := of_decide_eq_true h1
        have h1 : wd (wsOf line) 0 = ("table" : Str) := by injection h1
        have hst : stepT (named ls) ts (wsOf line) = if (wsOf line).length ≠ 2 ∨ isW (wd (wsOf line) 1) = false ∨ wd (wsOf line) 1 ∈ ts.map Prod.fst ∨ ts.length = 5 then none else some (ts ++ [(wd (wsOf line) 1, [])]) := by
          unfold stepT
          rw [if_pos h1]
        have rz : ∀ {H' : Hp}, Same H H' → ((wsOf line).length ≠ 2 ∨ isW (wd (wsOf line) 1) = false ∨ wd (wsOf line) 1 ∈ ts.map Prod.fst ∨ ts.length = 5) → ∀ d H2, H' d = none → Same H' H2 → H2 d = some (.xd (([("at" : Str)]).zip [V.int ((i : Nat) : Int)]).reverse) → E (.ref (He.ga K "BadSchema")) (some d) H2 := fun s' hc d H2 _ s2 h2 => by
          rw [if_pos hc] at hst
          rw [hst] at hrd3
          exact kE i (by rw [hrd, ← hrd3]) H2 d (s'.trans s2) h2
        refine ⟨_, rfl, q, _, rfl, .inl (SqL.of hq5), rfl, _, rfl, ?_⟩
        by_cases c1 : (wsOf line).length = 2
        case neg => exact iteNN (fun z => c1 (by rw [List.length_map] at z; injection z with z; omega)) (iteT ⟨_, rfl, rx_ (fs := [("at" : Str)]) rfl (by simp) (by decide) (rz s5 (.inl c1))⟩)
        refine iteNS (by rw [List.length_map, c1]; rfl) ?_
        have w1 : 1 < (wsOf line).length := by omega
        refine ⟨_, rfl, q, _, _, _, rfl, rfl, SqL.of hq5, wd_at w1, _, rfl, Nat.le_trans (ws_len (wd_mem w1)) hlz, fun H6 s6 => ?_⟩
        have hq6 := s6 _ _ hq5
        have htd6 := s6 _ _ htd5
        have tb6 := tb5.same s6
        have s56 := s5.trans s6
        cases c2 : isW (wd (wsOf line) 1) with
        | false => exact ⟨false, rfl, iteT (iteT ⟨_, rfl, rx_ (fs := [("at" : Str)]) rfl (by simp) (by decide) (rz s56 (.inr (.inl c2)))⟩)⟩
        | true =>
        refine ⟨true, rfl, iteF ?_⟩
        by_cases c3 : wd (wsOf line) 1 ∈ ts.map Prod.fst
        case pos =>
          refine ⟨_, rfl, q, _, _, _, rfl, rfl, SqL.of hq6, wd_at w1, _, rfl, td, _, rfl, DGet.k (k := Sum.inr (wd (wsOf line) 1)) htd6, _, rfl, ?_⟩
          rcases tb6.val (x := wd (wsOf line) 1) with ⟨e, _⟩ | ⟨cs, a', k', e1', e2', _⟩
          · exact absurd c3 (tabAt_none.mp e)
          rw [e2']
          exact iteT (iteT ⟨_, rfl, rx_ (fs := [("at" : Str)]) rfl (by simp) (by decide) (rz s56 (.inr (.inr (.inl c3))))⟩)
        have hv6 : valV kvs (Sum.inr (wd (wsOf line) 1)) = none := by
          rcases tb6.val (x := wd (wsOf line) 1) with ⟨_, e⟩ | ⟨cs, _, _, e, _⟩
          · exact e
          · have := tabAt_none.mpr c3
            rw [e] at this
            cases this
        refine ⟨_, rfl, q, _, _, _, rfl, rfl, SqL.of hq6, wd_at w1, _, rfl, td, _, rfl, DGet.k (k := Sum.inr (wd (wsOf line) 1)) htd6, _, rfl, ?_⟩
        rw [hv6]
        refine iteF ?_
        have etl := tb6.len
        refine ⟨_, rfl, td, kvs, rfl, htd6, rfl, _, rfl, ?_⟩
        by_cases c4 : ts.length = 5
        case pos => exact iteDT (by rw [etl, c4]; rfl) ⟨_, rfl, rx_ (fs := [("at" : Str)]) rfl (by simp) (by decide) (rz s56 (.inr (.inr (.inr c4))))⟩
        refine iteDF (fun z => c4 (by injection z with z; omega)) ?_
        have nall : ¬ ((wsOf line).length ≠ 2 ∨ isW (wd (wsOf line) 1) = false ∨ wd (wsOf line) 1 ∈ ts.map Prod.fst ∨ ts.length = 5) := by
          rintro (z | z | z | z)
          · exact z c1
          · rw [c2] at z
            cases z
          · exact c3 z
          · exact c4 z
        rw [if_neg nall] at hst
        rw [hst] at hrd3
        have hrd3 : readT (named ls) (ls.drop (i + 1)) (ts ++ [(wd (wsOf line) 1, [])]) (i + 1) = fin := hrd3
        refine ⟨_, rfl, q, _, _, _, rfl, rfl, SqL.of hq6, wd_at w1, ?_⟩
        intro a ha
        have nat : td ≠ a := ne_of_none htd6 ha
        have naq : ¬ Ads kvs a := fun z => by
          obtain ⟨k', e⟩ := tb6.dk z
          rw [ha] at e
          cases e
        have htd7 : upd H6 a (.dK []) td = some (.dK kvs) := by rw [upd_ne nat]; exact htd6
        refine ⟨_, rfl, _, rfl, td, _, rfl, DPut.k (k := Sum.inr (wd (wsOf line) 1)) htd7 ?_, ?_⟩
        · have e := tb6.len
          rw [sizeLine_eq]
          have h5 := few.1
          omega
        rw [putK_new hv6]
        have s7 : Same H (upd (upd H6 a (.dK [])) td (.dK (kvs ++ [(Sum.inr (wd (wsOf line) 1), .ref a)]))) := fun b o e => by
          rw [upd_ne (fun z => by rw [z, hd0] at e; cases e), upd_ne (ne_of_none (s6 _ _ (s5 _ _ e)) ha)]
          exact s6 _ _ (s5 _ _ e)
        have ha0 : H a = none := by
          cases e : H a with
          | none => rfl
          | some o => rw [s6 _ _ (s5 _ _ e)] at ha; cases ha
        refine ⟨_, _, _, _, ts ++ [(wd (wsOf line) 1, [])], _, by rw [lastV_app] <;> rfl, s7, ?_, upd_same, ?_, ?_, ?_, ?_, ?_, hrd3⟩
        · rw [upd_ne (fun z => by rw [← z, s6 _ _ hnm5] at htd6; cases htd6), upd_ne (ne_of_none (s6 _ _ hnm5) ha)]
          exact s6 _ _ hnm5
        · refine Tabs0.updO htd7 (fun _ z => nomatch z) ?_ ?_
          · exact Tabs0.more upd_same (tb6.updN ha) naq
          · rw [ads_app]
            rintro (z | z)
            · exact nad z
            · rcases Ads.cons.mp z with z | ⟨_, z, _⟩
              · exact nat z
              · cases z
        · rw [ads_app]
          rintro (z | z)
          · exact nad z
          · rcases Ads.cons.mp z with z | ⟨_, z, _⟩
            · exact nat z
            · cases z
        · intro b hb
          rcases ads_app.mp hb with z | z
          · exact fre b z
          · rcases Ads.cons.mp z with rfl | ⟨_, z, _⟩
            · exact ha0
            · cases z
        · rw [List.map_append, List.nodup_append]
          refine ⟨nod, by simp, fun x hx y hy e => ?_⟩
          rw [List.map_cons, List.map_nil, List.mem_singleton] at hy
          rw [e, hy] at hx
          exact c3 hx
        · refine ⟨by rw [List.length_append]; have := few.1; simp; omega, fun t ht => ?_⟩
          rcases List.mem_append.mp ht with z | z
          · exact few.2 t z
          · rw [List.mem_singleton.mp z]
            simp
      · have h1 : ¬ wd (wsOf line) 0 = ("table" : Str) := fun z => h1 (decide_eq_true (by rw [z]))
        have hst : stepT (named ls) ts (wsOf line) = (colOf (wsOf line) (named ls)).bind (addCol ts) := by
          unfold stepT
          rw [if_neg h1]
        have rz : ∀ {H' : Hp}, Same H H' → stepT (named ls) ts (wsOf line) = none → ∀ d H2, H' d = none → Same H' H2 → H2 d = some (.xd (([("at" : Str)]).zip [V.int ((i : Nat) : Int)]).reverse) → E (.ref (He.ga K "BadSchema")) (some d) H2 := fun s' hc d H2 _ s2 h2 => by
          rw [hc] at hrd3
          exact kE i (by rw [hrd, ← hrd3]) H2 d (s'.trans s2) h2
        refine ⟨_, rfl, _, rfl, q, nm, _, _, rfl, SqL.of hq5, SqL.of hnm5, (fun z hz => Nat.le_trans (ws_len hz) hlz), (fun hco H6 s6 => ?_), fun c hco H6 pr tu s6 hpr htu => ?_⟩
        · refine ⟨_, rfl, rfl, _, rfl, iteT (iteT ?_)⟩
          exact ⟨_, rfl, rx_ (fs := [("at" : Str)]) rfl (by simp) (by decide) (rz (s5.trans s6) (by rw [hst, hco]; rfl))⟩
        · have s56 := s5.trans s6
          have htd6 := s6 _ _ htd5
          have hst2 : stepT (named ls) ts (wsOf line) = addCol ts c := by rw [hst, hco]; rfl
          refine ⟨_, rfl, rfl, _, rfl, iteF ?_⟩
          rcases List.eq_nil_or_concat ts with rfl | ⟨acc, ⟨n, cs⟩, rfl⟩
          · refine ⟨_, rfl, rfl, _, rfl, ?_⟩
            exact iteT (iteT ⟨_, rfl, rx_ (fs := [("at" : Str)]) rfl (by simp) (by decide) (rz s56 (by rw [hst2]; rfl))⟩)
          rw [List.concat_eq_append] at *
          have hnd : n ∉ acc.map Prod.fst := fun z => by
            rw [List.map_append, List.nodup_append] at nod
            exact nod.2.2 _ z _ (List.mem_cons_self ..) rfl
          obtain ⟨a, k', v1, v2, v3, v4, v5⟩ := (tb5.same s6).last hnd
          refine ⟨_, rfl, rfl, _, rfl, ?_⟩
          rw [lastV_app]
          refine iteF ?_
          have g : DGet H6 td (.str n) (some (.ref a)) := by
            have g := DGet.k (k := Sum.inr n) htd6
            rw [v1] at g
            exact g
          have ec := v3.len
          refine ⟨_, rfl, pr, _, _, _, rfl, rfl, SqT.of hpr, atI_nat (j := 0) rfl, _, rfl, _, rfl, td, .ref a, rfl, g, a, _, rfl, DGet.k (k := Sum.inr c.name) v2, _, rfl, ?_⟩
          by_cases c1 : c.name ∈ cs.map Col.name
          case pos =>
            rcases v3.val (x := c.name) with ⟨e, _⟩ | ⟨c', a', _, e', _⟩
            · exact absurd c1 (colAt_none.mp e)
            rw [e']
            exact iteT (iteT ⟨_, rfl, rx_ (fs := [("at" : Str)]) rfl (by simp) (by decide) (rz s56 (by rw [hst2]; exact addCol_bad (.inl c1)))⟩)
          have hno : valV k' (Sum.inr c.name) = none := by
            rcases v3.val (x := c.name) with ⟨_, e⟩ | ⟨c', _, e, _⟩
            · exact e
            · have := colAt_none.mpr c1
              rw [e] at this
              cases this
          rw [hno]
          refine iteF ?_
          refine ⟨_, rfl, _, rfl, td, .ref a, rfl, g, a, k', rfl, v2, rfl, _, rfl, ?_⟩
          by_cases c2 : cs.length = 6
          case pos => exact iteDT (by rw [ec, c2]; rfl) ⟨_, rfl, rx_ (fs := [("at" : Str)]) rfl (by simp) (by decide) (rz s56 (by rw [hst2]; exact addCol_bad (.inr c2)))⟩
          refine iteDF (fun z => c2 (by injection z with z; omega)) ?_
          have f6 : cs.length ≤ 6 := few.2 (n, cs) (List.mem_append_right _ (List.mem_cons_self ..))
          have hst3 : addCol (acc ++ [(n, cs)]) c = some (acc ++ [(n, cs ++ [c])]) := addCol_app acc n cs c c1 (by omega)
          rw [hst2, hst3] at hrd3
          have hrd3 : readT (named ls) (ls.drop (i + 1)) (acc ++ [(n, cs ++ [c])]) (i + 1) = fin := hrd3
          refine ⟨_, rfl, pr, _, _, _, rfl, rfl, SqT.of hpr, atI_nat (j := 1) rfl, _, rfl, _, rfl, td, .ref a, rfl, g, _, rfl, pr, _, _, _, rfl, rfl, SqT.of hpr, atI_nat (j := 0) rfl, a, _, rfl, DPut.k (k := Sum.inr c.name) v2 ?_, ?_⟩
          · rw [sizeLine_eq]
            omega
          rw [putK_new hno]
          have nta : td ≠ a := fun z => nad (by rw [z]; exact v4)
          have ha0 := fre a v4
          refine ⟨_, _, _, _, acc ++ [(n, cs ++ [c])], kvs, by rw [lastV_app] <;> rfl, ?_, ?_, ?_, v5 c tu htu, nad, fre, ?_, ?_, hrd3⟩
          · exact fun b o e => by
              rw [upd_ne (ne_of_none e ha0)]
              exact s6 _ _ (s5 _ _ e)
          · rw [upd_ne (fun z => by rw [← z, s6 _ _ hnm5] at v2; cases v2)]
            exact s6 _ _ hnm5
          · rw [upd_ne nta]
            exact htd6
          · have e : (acc ++ [(n, cs ++ [c])]).map Prod.fst = (acc ++ [(n, cs)]).map Prod.fst := by rw [List.map_append, List.map_append] <;> rfl
            rw [e]
            exact nod
          · refine ⟨by have := few.1; simpa using this, fun t ht => ?_⟩
            rcases List.mem_append.mp ht with z | z
            · exact few.2 t (List.mem_append_left _ z)
            · rw [List.mem_singleton.mp z]
              show (cs ++ [c]).length ≤ 6
              rw [List.length_append]
              simp
              omega
    · rintro σ H2 ⟨x4, x5, x6, x7, ts, kvs, rfl, s3, hnm3, htd3, tb3, nad, fre, nod, few, hrd3⟩
      rw [List.length_map, List.drop_length] at hrd3
      unfold readT at hrd3
      refine ⟨_, rfl, frz_all htd3 tb3 nad fun H' o ag hd' tb' => ?_⟩
      refine k ts (by rw [hrd, ← hrd3]) H' td o kvs (fun b u e => ?_) hd' tb'
      rw [ag b (fun z => by rw [z, hd0] at e; cases e) fun z => by rw [fre b z] at e; cases e]
      exact s3 _ _ e
end
end Ow

/-! schemas, the program: Schema.__init__, raising -/
namespace Ow
open PySem PySem.Spec L2
def spInitX (K : PySem.W.Frag) : Sp := fun vs H Q E => ∃ (x dx : Addr) (v : V), vs = [.ref x, v] ∧ H x = some (.ins (He.ga K "Schema") dx []) ∧
  ((∃ z, v = .str z ∧ z.length ≤ 100000 ∧ Short (linesIn z) ∧ (∀ i, readT (named (linesIn z)) (linesIn z) [] 0 = .error i → xBS K (i : Nat) H E) ∧
    ∀ ts, readT (named (linesIn z)) (linesIn z) [] 0 = .ok ts → ∀ H', (∀ b o, b ≠ x → H b = some o → H' b = some o) → SchAt K H' x z ts → Q .non H') ∨
   ∃ T, TyX K H v (.type T) ∧ PySem.W.kitOne K (.type T) (.type "str") = some false ∧ xBS K (-1) H E)
section
variable {P : Program} {w : World} {K : PySem.W.Frag} {mg : Str → Option Value} {base : Heap}
theorem sc_Schema___init__ : FnScope [("self" : Str), ("text" : Str), ("tables" : Str)] [("self" : Str), ("text" : Str)] (defScope s_Schema___init__) := ⟨rfl, rfl, rfl, by decide +kernel, rfl, by decide +kernel, by decide +kernel⟩
theorem ok_init (D : MtD K "Schema" "__init__" "Schema.__init__" s_Schema___init__) (T : Blt mg) (M : ScC K mg) (S : ScS K mg) (C : ExF P K mg) (F_read : FnAtX P w K mg base "read_tables" [("lines" : Str)] 3 (spReadX K)) :
    MtAtX P w K mg base "Schema" "__init__" [("self" : Str), ("text" : Str)] 4 (spInitX K) := by
  refine mt_atX D sc_Schema___init__ (fun _ _ _ _ _ _ us hl => match us, hl with | [_, _], _ => rfl) (fun vs H Q E h => ?_) (fun f cdv A outer s H vs Q E hr h => ?_)
  · obtain ⟨x, dx, v, rfl, _⟩ := h
    rfl
  · obtain ⟨x, dx, v, rfl, hx, hv⟩ := h
    refine ⟨_, (pss_cons (ps_if (pt_not (pt_val (pe_callB call_isi (by rfl) M.isinstance (by decide +kernel) (pa_cons (pv 1) (pa_cons (pe_bltn (v := .ty "str") (by rfl) M.str (by decide +kernel) rfl) pa_nil)))))
      (pss_one (ps_raise rfl (takes_of rfl rfl rfl rfl) (pmk_x C.BadSchema (fun _ _ _ _ _ _ _ u us ws h1 h2 => match us, ws, h1, h2 with | [_], [], _, _ => rfl) (hr.mono (by decide)) (by rfl) (pa_cons (pe_un un_neg pe_int) pa_nil))))
      pss_nil)
      (pss_cons (ps_set (i := 2) sc_Schema___init__.nd rfl (Or.inl rfl) (pe_fnX F_read (passes_call (takes_of rfl rfl rfl rfl) (fun _ _ _ _ h => h)) (hr.mono (by decide)) (by rfl) (pa_cons (pe_split (pv 1) pe_str) pa_nil)))
      (PSs.nox (pss_cons (ps_fld (pv 0) (pv 1) rfl)
      (pss_cons (ps_fld (pv 0) (pv 2) rfl)
      (pss_one (ps_fld (pv 0) (pe_callTy (call_tuple_dK rfl) (by rfl) T.tuple (by decide +kernel) (pa_cons (pv 2) pa_nil)) rfl))))))), ?_⟩
    rcases hv with ⟨z, rfl, hz, hsh, kE, k⟩ | ⟨Ty, hty, hk, kE⟩
    case inr =>
      refine ⟨_, rfl, _, _, _, _, false, rfl, .ty "str", hty, hk, _, rfl, iteT ?_⟩
      exact ⟨1, rfl, rx_ (fs := [("at" : Str)]) rfl (by simp) (by decide) fun d2 H2 n2 s2 h2 => kE H2 d2 s2 h2⟩
    refine ⟨_, rfl, _, _, _, _, true, rfl, .ty "str", .base (.str z), kit_ty (by decide +kernel), _, rfl, iteF ?_⟩
    refine ⟨_, rfl, ⟨_, rfl⟩, z, _, rfl, rfl, by decide +kernel, by rw [sizeLine_eq]; omega, fun q hq => ?_⟩
    have s1 := same_upd (o := .lst ((linesIn z).map V.str)) hq
    refine ⟨q, linesIn z, rfl, SqL.of upd_same, hsh, fun i hi H2 d2 s2 h2 => kE i hi H2 d2 (s1.trans s2) h2, fun ts hrd H2 d o kvs s2 hd tb => ?_⟩
    have s12 := s1.trans s2
    have hx2 := s12 _ _ hx
    refine ⟨_, rfl, _, rfl, x, _, dx, _, rfl, hx2, S.cl, S.text, by decide, ?_⟩
    refine ⟨_, rfl, _, rfl, x, _, dx, _, rfl, upd_same, S.cl, S.found, by show 1 < 1000; decide, ?_⟩
    have ndx : d ≠ x := ne_of hd hx2 fun z => nomatch z
    have hd4 : upd (upd H2 x (.ins (He.ga K "Schema") dx [(("text" : Str), V.str z)])) x (.ins (He.ga K "Schema") dx [(("text" : Str), V.str z), (("found" : Str), V.ref d)]) d = some (.frz o (.dK kvs)) := by rw [upd_ne ndx, upd_ne ndx]; exact hd
    refine ⟨_, rfl, d, kvs, rfl, .inr ⟨o, hd4⟩, fun tp htp => ?_⟩
    have ntx : x ≠ tp := ne_of_none upd_same htp
    refine ⟨_, rfl, x, _, dx, _, rfl, by rw [upd_ne ntx]; exact upd_same, S.cl, S.tables, by show 2 < 1000; decide, ?_⟩
    have oth : ∀ b u, b ≠ x → H2 b = some u → upd (upd (upd (upd H2 x (.ins (He.ga K "Schema") dx [(("text" : Str), V.str z)])) x (.ins (He.ga K "Schema") dx [(("text" : Str), V.str z), (("found" : Str), V.ref d)])) tp (.tup (kvs.map fun kv => kV kv.1))) x (.ins (He.ga K "Schema") dx [(("text" : Str), V.str z), (("found" : Str), V.ref d), (("tables" : Str), V.ref tp)]) b = some u := fun b u hb e => by
      have nb : b ≠ tp := ne_of_none (show upd (upd H2 x (.ins (He.ga K "Schema") dx [(("text" : Str), V.str z)])) x (.ins (He.ga K "Schema") dx [(("text" : Str), V.str z), (("found" : Str), V.ref d)]) b = some u by rw [upd_ne hb, upd_ne hb]; exact e) htp
      rw [upd_ne hb, upd_ne nb, upd_ne hb, upd_ne hb]
      exact e
    refine k ts hrd _ (fun b u hb e => oth b u hb (s12 _ _ e)) ⟨dx, d, tp, o, kvs, upd_same, oth _ _ ndx hd, tb.but hx2 (fun _ z => nomatch z) (fun _ _ z => nomatch z) oth, ?_⟩
    rw [upd_ne ntx.symm, upd_same, tb.keys]
theorem sc_Schema_columns : FnScope [("self" : Str), ("table" : Str)] [("self" : Str), ("table" : Str)] (defScope s_Schema_columns) := ⟨rfl, rfl, rfl, by decide +kernel, rfl, by decide +kernel, by decide +kernel⟩
theorem ok_columns (D : MtD K "Schema" "columns" "Schema.columns" s_Schema_columns) (T : Blt mg) (M : ScC K mg) (S : ScS K mg) : MtAt P w K mg base "Schema" "columns" [("self" : Str), ("table" : Str)] 1 (spColumns K) := by
  refine mt_at D sc_Schema_columns (fun _ _ _ _ _ _ us hl => match us, hl with | [_, _], _ => rfl) (fun vs H Q E h => ?_) (fun f cdv A outer s H vs Q E hr h => ?_)
  · obtain ⟨x, z, t, ts, cs, rfl, _⟩ := h
    rfl
  · obtain ⟨x, z, t, ts, cs, rfl, ⟨dx, d, tp, o, kvs, hx, hd, tb, htp⟩, hat, k⟩ := h
    refine ⟨_, (pss_cons (ps_if (pt_cmpR op_notIn_seq (pv 1) (pe_fld (pv 0) rfl) rfl)
      (pss_one ps_never)
      pss_nil)
      (pss_one (ps_ret (pe_callTy (call_tuple_dK rfl) (by rfl) T.tuple (by decide +kernel) (pa_cons (pe_dget (hu_of hr) (pe_fld (pv 0) rfl) (pv 1) (fun _ _ => rfl)) pa_nil))))), ?_⟩
    refine ⟨_, rfl, _, rfl, x, _, dx, _, _, rfl, hx, S.cl, S.tables, rfl, tp, _, rfl, .inr (SqT.of htp), rfl, ?_, _, rfl, ?_⟩
    · have e : (ts.map fun u => V.str u.1) = (ts.map Prod.fst).map V.str := by rw [List.map_map] <;> rfl
      rw [e]
      exact flat_strs _
    have hin : inV (V.str t) (ts.map fun u => V.str u.1) = true := by
      have e : (ts.map fun u => V.str u.1) = (ts.map Prod.fst).map V.str := by rw [List.map_map] <;> rfl
      rw [e, inV_str]
      exact decide_eq_true (List.mem_map_of_mem (f := Prod.fst) (tabAt_mem hat))
    show if (!inV (V.str t) (ts.map fun u => V.str u.1)) = true then _ else _
    rw [hin]
    refine iteF ?_
    rcases tb.val (x := t) with ⟨e, _⟩ | ⟨cs', a, o', kvs', e1, e2, e3, e4⟩
    · rw [hat] at e
      cases e
    rw [hat] at e1
    cases e1
    refine ⟨_, rfl, x, _, dx, _, _, rfl, hx, S.cl, S.found, rfl, _, rfl, d, .ref a, rfl, .inl ⟨kvs, Sum.inr t, .inr ⟨o, hd⟩, rfl, e2.symm⟩, a, kvs', rfl, .inr ⟨o', e3⟩, fun q hq => ?_⟩
    refine k _ q (same_upd hq) hq ?_
    rw [upd_same, e4.keys]
end
end Ow

/-! the laws' draws -/
namespace Ow
open PySem PySem.Spec L2
theorem pool_mix (z : Int) {i : Nat} (h : i ≤ 1000) : 0 ≤ z % 618970019642690137449562111 * 5 + 6271 * (i : Int) + 41 ∧ z % 618970019642690137449562111 * 5 + 6271 * (i : Int) + 41 < 2 ^ 100 := by
  have h1 := Int.emod_nonneg z (show (618970019642690137449562111 : Int) ≠ 0 by decide)
  have h2 := Int.emod_lt_of_pos z (show (0 : Int) < 618970019642690137449562111 by decide)
  have : (2 : Int) ^ 100 = 1267650600228229401496703205376 := by decide
  omega
theorem abs_nn (z : Int) : 0 ≤ (if z < 0 then -z else z) := by split <;> omega
section
variable {P : Program} {w : World} {K : PySem.W.Frag} {mg : Str → Option Value} {base : Heap}
theorem sc_law_pool : FnScope [("_law_script" : Str), ("_law_at" : Str), ("_law_cell" : Str), ("_law_digits" : Str)] [("_law_script" : Str), ("_law_at" : Str)] (defScope s_law_pool) := ⟨rfl, rfl, rfl, by decide +kernel, rfl, by decide +kernel, by decide +kernel⟩
theorem ok_pool (D : TopD K mg "_law_pool" s_law_pool) (T : Blt mg) : FnAt P w K mg base "_law_pool" [("_law_script" : Str), ("_law_at" : Str)] 1 (spPool K) := by
  refine fn_at D sc_law_pool (fun _ _ _ _ _ _ us hl => match us, hl with | [_, _], _ => rfl) (fun vs H Q E h => ?_) (fun f cdv A outer s H vs Q E hr h => ?_)
  · obtain ⟨s, ns, i, rfl, _⟩ := h
    rfl
  · obtain ⟨a, ns, i, rfl, hS, hi, k⟩ := h
    refine ⟨_, (pss_cons (ps_set (i := 2) sc_law_pool.nd rfl (Or.inl rfl) (pe_ifExp (pt_cmpR op_lt (pv 1) (pe_callB call_len_seq (by rfl) T.len PySem.boot_len (pa_cons (pv 0) pa_nil)) (nomark _)) (pe_ix ix_list (pv 0) (pv 1) (fun _ _ => rfl)) pe_int))
      (pss_cons (ps_set (i := 3) sc_law_pool.nd rfl (Or.inl rfl) (pe_ifExp (pt_cmpR op_ge (pe_callB call_abs (by rfl) T.abs (by decide +kernel) (pa_cons (pv 2) pa_nil)) (pe_op op_powW pe_int pe_int) (nomark _)) (pe_callB call_abs (by rfl) T.abs (by decide +kernel) (pa_cons (pv 2) pa_nil)) pe_int))
      (pss_one (ps_ret (pe_lst (pa_cons (pv 3) (pa_cons (pe_op op_add (pe_op op_add (pe_op op_mul (pe_op op_mod (pe_callTy call_int1 (by rfl) T.int (by decide +kernel) (pa_cons (pv 2) pa_nil)) pe_int) pe_int) (pe_op op_mul pe_int (pv 1))) pe_int) (pa_cons pe_int pa_nil)))))))), ?_⟩
    refine ⟨_, rfl, _, rfl, a, _, rfl, .inl hS, _, _, rfl, rfl, _, rfl, ?_⟩
    refine ite2 (fun h1 => ?_) (fun h1 => ?_)
    · have h1 : (i : Int) < ((ns.map V.int).length : Int) := of_decide_eq_true h1
      have hi2 : i < ns.length := by
        rw [List.length_map] at h1
        omega
      refine ⟨_, rfl, _, rfl, a, _, _, .int ns[i], rfl, rfl, hS, atI_nat (by rw [List.getElem?_map, List.getElem?_eq_getElem hi2]; rfl), ?_⟩
      refine ⟨_, rfl, _, rfl, _, _, rfl, rfl, powW (n := 4) (by decide) (by decide) (by decide) (by decide), _, _, rfl, rfl, _, rfl, ?_⟩
      refine ite2 (fun h2 => ?_) (fun h2 => ?_)
      · refine ⟨_, rfl, _, rfl, ?_⟩
        refine ⟨_, rfl, _, rfl, .inl ⟨_, rfl, _, _, rfl, rfl, (by show (0 : Int) < 618970019642690137449562111; decide), _, _, rfl, rfl, .inr ⟨by decide, by decide⟩, _, rfl, _, _, rfl, rfl, .inl ⟨by decide, by decide⟩, _, _, rfl, rfl, _, _, rfl, rfl, ?_⟩⟩
        refine ⟨by show 3 ≤ sizeLine; decide, fun p hp => k _ p hp (fun b o e => by rw [upd_ne (ne_of_none e hp)]; exact e) ⟨_, _, _, upd_same, ?_, (pool_mix _ hi).1, (pool_mix _ hi).2, Int.le_refl _, Int.le_refl _⟩⟩
        exact abs_nn _
      · skip
        refine ⟨_, rfl, _, rfl, .inl ⟨_, rfl, _, _, rfl, rfl, (by show (0 : Int) < 618970019642690137449562111; decide), _, _, rfl, rfl, .inr ⟨by decide, by decide⟩, _, rfl, _, _, rfl, rfl, .inl ⟨by decide, by decide⟩, _, _, rfl, rfl, _, _, rfl, rfl, ?_⟩⟩
        refine ⟨by show 3 ≤ sizeLine; decide, fun p hp => k _ p hp (fun b o e => by rw [upd_ne (ne_of_none e hp)]; exact e) ⟨_, _, _, upd_same, ?_, (pool_mix _ hi).1, (pool_mix _ hi).2, Int.le_refl _, Int.le_refl _⟩⟩
        exact Int.le_refl _
    · skip
      refine ⟨_, rfl, _, rfl, _, _, rfl, rfl, powW (n := 4) (by decide) (by decide) (by decide) (by decide), _, _, rfl, rfl, _, rfl, ?_⟩
      refine ite2 (fun h2 => ?_) (fun h2 => ?_)
      · refine ⟨_, rfl, _, rfl, ?_⟩
        refine ⟨_, rfl, _, rfl, .inl ⟨_, rfl, _, _, rfl, rfl, (by show (0 : Int) < 618970019642690137449562111; decide), _, _, rfl, rfl, .inr ⟨by decide, by decide⟩, _, rfl, _, _, rfl, rfl, .inl ⟨by decide, by decide⟩, _, _, rfl, rfl, _, _, rfl, rfl, ?_⟩⟩
        refine ⟨by show 3 ≤ sizeLine; decide, fun p hp => k _ p hp (fun b o e => by rw [upd_ne (ne_of_none e hp)]; exact e) ⟨_, _, _, upd_same, ?_, (pool_mix _ hi).1, (pool_mix _ hi).2, Int.le_refl _, Int.le_refl _⟩⟩
        exact abs_nn _
      · skip
        refine ⟨_, rfl, _, rfl, .inl ⟨_, rfl, _, _, rfl, rfl, (by show (0 : Int) < 618970019642690137449562111; decide), _, _, rfl, rfl, .inr ⟨by decide, by decide⟩, _, rfl, _, _, rfl, rfl, .inl ⟨by decide, by decide⟩, _, _, rfl, rfl, _, _, rfl, rfl, ?_⟩⟩
        refine ⟨by show 3 ≤ sizeLine; decide, fun p hp => k _ p hp (fun b o e => by rw [upd_ne (ne_of_none e hp)]; exact e) ⟨_, _, _, upd_same, ?_, (pool_mix _ hi).1, (pool_mix _ hi).2, Int.le_refl _, Int.le_refl _⟩⟩
        exact Int.le_refl _
theorem sc_law_draw : FnScope [("_law_pool_here" : Str), ("_law_many" : Str), ("_law_digit" : Str), ("_law_step" : Str), ("_law_mixed" : Str)] [("_law_pool_here" : Str), ("_law_many" : Str)] (defScope s_law_draw) := ⟨rfl, rfl, rfl, by decide +kernel, rfl, by decide +kernel, by decide +kernel⟩
theorem ok_draw (D : TopD K mg "_law_draw" s_law_draw) (T : Blt mg) : FnAt P w K mg base "_law_draw" [("_law_pool_here" : Str), ("_law_many" : Str)] 1 spDraw := by
  refine fn_at D sc_law_draw (fun _ _ _ _ _ _ us hl => match us, hl with | [_, _], _ => rfl) (fun vs H Q E h => ?_) (fun f cdv A outer s H vs Q E hr h => ?_)
  · obtain ⟨p, n, m, rfl, _⟩ := h
    rfl
  · obtain ⟨p, n, m, rfl, ⟨a, b, c, hp, ha, hb, hb2, hc, hcn⟩, hn, hm, hm2, k⟩ := h
    refine ⟨_, (pss_cons (ps_if (pt_cmpR op_gt (pe_ix ix_list (pv 0) pe_int (fun _ _ => rfl)) pe_int (nomark _))
      (pss_cons (ps_set (i := 2) sc_law_draw.nd rfl (Or.inl rfl) (pe_op op_mod (pe_callTy call_int1 (by rfl) T.int (by decide +kernel) (pa_cons (pe_ix ix_list (pv 0) pe_int (fun _ _ => rfl)) pa_nil)) (pv 1)))
      (pss_cons (ps_asg (pe_op op_fdivW (pe_ix ix_list (pv 0) pe_int (fun _ _ => rfl)) (pv 1)) (pg_sub (pv 0) pe_int set_list))
      (pss_one (ps_ret (pv 2)))))
      pss_nil)
      (pss_cons (ps_asg (pe_op op_add (pe_ix ix_list (pv 0) pe_int (fun _ _ => rfl)) pe_int) (pg_sub (pv 0) pe_int set_list))
      (pss_cons (ps_set (i := 3) sc_law_draw.nd rfl (Or.inl rfl) (pe_op op_add (pe_ix ix_list (pv 0) pe_int (fun _ _ => rfl)) (pe_op op_mul pe_int (pe_ix ix_list (pv 0) pe_int (fun _ _ => rfl)))))
      (pss_cons (ps_set (i := 4) sc_law_draw.nd rfl (Or.inl rfl) (pe_op op_mod (pe_callTy call_int1 (by rfl) T.int (by decide +kernel) (pa_cons (pe_op op_add (pe_op op_powW (pv 3) pe_int) (pe_ix ix_list (pv 0) pe_int (fun _ _ => rfl))) pa_nil)) pe_int))
      (pss_cons (ps_set (i := 4) sc_law_draw.nd rfl (Or.inl rfl) (pe_op op_mod (pe_callTy call_int1 (by rfl) T.int (by decide +kernel) (pa_cons (pe_op op_powW (pe_op op_add (pv 4) (pe_op op_mul pe_int (pe_ix ix_list (pv 0) pe_int (fun _ _ => rfl)))) pe_int) pa_nil)) pe_int))
      (pss_one (ps_ret (pe_op op_mod (pe_callTy call_int1 (by rfl) T.int (by decide +kernel) (pa_cons (pe_op op_fdivW (pv 4) pe_int) pa_nil)) (pv 1))))))))), ?_⟩
    refine ⟨_, rfl, p, _, _, .int a, rfl, rfl, SqL.of hp, rfl, _, _, rfl, rfl, _, rfl, ?_⟩
    refine ite2 (fun h1 => ?_) (fun h1 => ?_)
    · have h1 : 0 < a := of_decide_eq_true h1
      refine ⟨_, rfl, p, _, _, .int a, rfl, rfl, SqL.of hp, rfl, .inl ⟨a, rfl, _, rfl, a, m, rfl, rfl, hm, ?_⟩⟩
      refine ⟨_, rfl, p, _, _, .int a, rfl, rfl, SqL.of hp, rfl, _, rfl, a, m, rfl, rfl, wide_div hm hm2 (by decide) (by decide), _, rfl, p, _, _, 0, rfl, rfl, hp, rfl, ?_⟩
      refine ⟨_, rfl, k _ _ keep_upd ⟨a / m, b, c, upd_same, div_nonneg_of ha hm, hb, hb2, hc, ?_⟩ (Int.emod_nonneg _ (Int.ne_of_gt hm)) (Int.emod_lt_of_pos _ hm)⟩
      omega
    · have hc2 : c + 1 ≤ 2 ^ 61 := by
        have : (2 : Int) ^ 61 = 2305843009213693952 := by decide
        have : (2 : Nat) ^ 60 = 1152921504606846976 := by decide
        omega
      have hc3 : 0 ≤ c + 1 := by omega
      refine ⟨_, rfl, p, _, _, .int c, rfl, rfl, SqL.of hp, rfl, c, 1, rfl, rfl, _, rfl, p, _, _, 2, rfl, rfl, hp, rfl, ?_⟩
      have hp2 : (upd H p (.lst ([V.int a, V.int b, V.int c].set 2 (V.int (c + 1))))) p = some (.lst [.int a, .int b, .int (c + 1)]) := upd_same
      obtain ⟨s1, s2⟩ := mix1 hb hb2 hc3 hc2
      refine ⟨_, rfl, p, _, _, .int b, rfl, rfl, SqL.of hp2, rfl, _, rfl, p, _, _, .int (c + 1), rfl, rfl, SqL.of hp2, rfl, _, _, rfl, rfl, .inl ⟨by decide, by decide⟩, _, _, rfl, rfl, ?_⟩
      refine ⟨_, rfl, _, _, rfl, rfl, powW s2 (by decide) (by decide) (by decide), _, rfl, p, _, _, .int (c + 1), rfl, rfl, SqL.of hp2, rfl, _, _, rfl, rfl, .inl ⟨_, rfl, _, _, rfl, rfl, (by show (0 : Int) < 162259276829213363391578010288127; decide), ?_⟩⟩
      have e1 := Int.emod_nonneg ((b + 982451653 * (c + 1)) ^ (3 : Int).toNat + (c + 1)) (show (162259276829213363391578010288127 : Int) ≠ 0 by decide)
      have e2 := Int.emod_lt_of_pos ((b + 982451653 * (c + 1)) ^ (3 : Int).toNat + (c + 1)) (show (0 : Int) < 162259276829213363391578010288127 by decide)
      obtain ⟨s3, s4⟩ := mix2 e1 e2 hc3 hc2
      refine ⟨_, rfl, _, rfl, p, _, _, .int (c + 1), rfl, rfl, SqL.of hp2, rfl, _, _, rfl, rfl, .inl ⟨by decide, by decide⟩, _, _, rfl, rfl, _, _, rfl, rfl, powW s4 (by decide) (by decide) (by decide), .inl ⟨_, rfl, _, _, rfl, rfl, (by show (0 : Int) < 618970019642690137449562111; decide), ?_⟩⟩
      refine ⟨_, rfl, _, _, rfl, rfl, wide_div (b := 20) (by decide) (by decide) (by decide) (by decide), .inl ⟨_, rfl, _, rfl, _, _, rfl, rfl, hm, ?_⟩⟩
      refine k _ _ keep_upd ⟨a, b, c + 1, hp2, ha, hb, hb2, hc3, ?_⟩ (Int.emod_nonneg _ (Int.ne_of_gt hm)) (Int.emod_lt_of_pos _ hm)
      omega
theorem sc_law_of : FnScope [("_law_pool_here" : Str), ("_law_some" : Str)] [("_law_pool_here" : Str), ("_law_some" : Str)] (defScope s_law_of) := ⟨rfl, rfl, rfl, by decide +kernel, rfl, by decide +kernel, by decide +kernel⟩
theorem ok_of (D : TopD K mg "_law_of" s_law_of) (T : Blt mg) (F_draw : FnAt P w K mg base "_law_draw" [("_law_pool_here" : Str), ("_law_many" : Str)] 1 spDraw) : FnAt P w K mg base "_law_of" [("_law_pool_here" : Str), ("_law_some" : Str)] 2 (spOf K) := by
  refine fn_at D sc_law_of (fun _ _ _ _ _ _ us hl => match us, hl with | [_, _], _ => rfl) (fun vs H Q E h => ?_) (fun f cdv A outer s H vs Q E hr h => ?_)
  · obtain ⟨p, l, n, xs, rfl, _⟩ := h
    rfl
  · obtain ⟨p, l, n, xs, rfl, hp, hn, hS, hne, h0, hl, k⟩ := h
    refine ⟨_, (pss_one (ps_ret (pe_ix ix_list (pv 1) (pe_fn F_draw (hr.mono (by decide)) (by rfl) (pa_cons (pv 0) (pa_cons (pe_callB call_len_seq (by rfl) T.len PySem.boot_len (pa_cons (pv 1) pa_nil)) pa_nil))) (fun _ _ => rfl)))), ?_⟩
    refine ⟨_, rfl, _, rfl, _, rfl, l, _, rfl, .inl hS, p, n, _, rfl, hp, hn, by omega, ?_, fun H' d kp pl d0 d1 => ?_⟩
    · have e2 : (1000 : Nat) < 2 ^ 200 := by decide
      omega
    · have hd : d.toNat < xs.length := by omega
      exact ⟨l, xs, d, xs[d.toNat], rfl, rfl, sqL_keep hS hne kp, at_of (j := d.toNat) (by omega) (List.getElem?_eq_getElem hd), k _ _ kp pl (List.getElem_mem hd)⟩
end
end Ow
/-! the laws' drawn words -/
namespace Ow
open PySem PySem.Spec L2
theorem let_at (m : Nat) : atI LET.cps.toList (((m : Nat) : Int) % 26) = some (ltr m) := by
  have q : ∀ i : Fin 26, LET.cps.toList[i.val]? = some (97 + i.val) := by decide +kernel
  have e : ((m : Nat) : Int) % 26 = ((m % 26 : Nat) : Int) := by omega
  rw [e]
  exact atI_nat (q ⟨m % 26, by omega⟩)
section
variable {P : Program} {w : World} {K : PySem.W.Frag} {mg : Str → Option Value} {base : Heap}
theorem sc_law_letters : FnScope [("_law_number" : Str), ("_law_size" : Str), ("_law_word_here" : Str), ("_law_k" : Str)] [("_law_number" : Str), ("_law_size" : Str)] (defScope s_law_letters) := ⟨rfl, rfl, rfl, by decide +kernel, rfl, by decide +kernel, by decide +kernel⟩
theorem ok_letters (D : TopD K mg "_law_letters" s_law_letters) (T : Blt mg) : FnAt P w K mg base "_law_letters" [("_law_number" : Str), ("_law_size" : Str)] 1 spLetters := by
  refine fn_at D sc_law_letters (fun _ _ _ _ _ _ us hl => match us, hl with | [_, _], _ => rfl) (fun vs H Q E h => ?_) (fun f cdv A outer s H vs Q E hr h => ?_)
  · obtain ⟨n, k, rfl, _⟩ := h
    rfl
  · obtain ⟨n, k, rfl, hn, hk, kk⟩ := h
    refine ⟨_, (pss_cons (ps_set (i := 2) sc_law_letters.nd rfl (Or.inl rfl) pe_str)
      (pss_cons (ps_for PassesOwn.never rfl (pi_range1 rfl T.range (pa_cons (pv 1) pa_nil)) (pg_name (i := 3) sc_law_letters.nd rfl (Or.inl rfl))
      (pss_cons (ps_set (i := 2) sc_law_letters.nd rfl (Or.inl rfl) (pe_op op_add_str (pv 2) (pe_ix ix_str pe_str (pe_op op_mod (pe_callTy call_int1 (by rfl) T.int (by decide +kernel) (pa_cons (pv 0) pa_nil)) pe_int) (fun _ _ => rfl))))
      (pss_one (ps_set (i := 0) sc_law_letters.nd rfl (Or.inl rfl) (pe_op op_fdivW (pv 0) pe_int)))))
      (pss_one (ps_ret (pv 2))))), ?_⟩
    refine ⟨_, rfl, k, rfl, by omega, by omega, ?_⟩
    refine for_range (lo := 0) (n := k) (fun i σ H' => ∃ x3 : Option V, σ = [some (.int ((n / 26 ^ i : Nat) : Int)), some (.int (k : Int)), some (.str ⟨(lets n i).toArray⟩), x3] ∧ Same H H') ⟨none, by rw [Nat.pow_zero, Nat.div_one] <;> rfl, Same.refl H⟩ ?_ ?_
    · rintro i σ H1 hi ⟨x3, rfl, s1⟩
      have hsz : LET.length ≤ sizeLine := by decide +kernel
      refine ⟨_, rfl, _, rfl, .inl ⟨_, rfl, _, _, rfl, rfl, (by show (0 : Int) < 26; decide), LET, _, ltr (n / 26 ^ i), rfl, rfl, hsz, let_at _, _, _, rfl, rfl, ?_, ?_⟩⟩
      · show (lets n i).toArray.size + 1 ≤ _
        rw [List.size_toArray, lets_len, sizeLine_eq]
        omega
      refine ⟨_, rfl, _, _, rfl, rfl, wide_div (b := 5) (by decide) (by decide) (by decide) (by decide), ?_⟩
      refine ⟨some (.int (0 + (i : Int))), ?_, s1⟩
      have e1 : (((n / 26 ^ i : Nat) : Int) / 26) = ((n / 26 ^ (i + 1) : Nat) : Int) := by
        rw [Nat.pow_succ, ← Nat.div_div_eq_div_mul]
        omega
      have e2 : (⟨(lets n i).toArray⟩ : Str) ++ (⟨#[ltr (n / 26 ^ i)]⟩ : Str) = ⟨(lets n (i + 1)).toArray⟩ := by
        refine TL.ext_tl ?_
        rw [TL.tl_append]
        show lets n i ++ [ltr (n / 26 ^ i)] = lets n (i + 1)
        rw [lets_succ]
      show [some (V.int (((n / 26 ^ i : Nat) : Int) / 26)), some (V.int (k : Int)), some (V.str ((⟨(lets n i).toArray⟩ : Str) ++ (⟨#[ltr (n / 26 ^ i)]⟩ : Str))), _] = _
      rw [e1, e2]
    · rintro σ H1 ⟨x3, rfl, s1⟩
      exact ⟨_, rfl, kk _ s1⟩
theorem sc_law_word : FnScope [("_law_pool_here" : Str), ("_law_taken" : Str), ("_law_size" : Str), ("_law_number" : Str), ("_law_word_here" : Str), ("_law_turn" : Str)] [("_law_pool_here" : Str), ("_law_taken" : Str)] (defScope s_law_word) := ⟨rfl, rfl, rfl, by decide +kernel, rfl, by decide +kernel, by decide +kernel⟩
theorem ok_word (D : TopD K mg "_law_word" s_law_word) (T : Blt mg) (F_draw : FnAt P w K mg base "_law_draw" [("_law_pool_here" : Str), ("_law_many" : Str)] 1 spDraw) (F_letters : FnAt P w K mg base "_law_letters" [("_law_number" : Str), ("_law_size" : Str)] 1 spLetters) : FnAt P w K mg base "_law_word" [("_law_pool_here" : Str), ("_law_taken" : Str)] 2 (spWord K) := by
  refine fn_at D sc_law_word (fun _ _ _ _ _ _ us hl => match us, hl with | [_, _], _ => rfl) (fun vs H Q E h => ?_) (fun f cdv A outer s H vs Q E hr h => ?_)
  · obtain ⟨p, l, n, tk, rfl, _⟩ := h
    rfl
  · obtain ⟨p, l, n, tk, rfl, hp, hn, hS, htk, kk⟩ := h
    have b60 : (2 : Nat) ^ 50 + 100 < 2 ^ 60 := by decide
    refine ⟨_, (pss_cons (ps_par3 (i := 2) (j := 3) (l := 4) (by rfl) sc_law_word.nd rfl rfl rfl (by decide) (by decide) (by decide) rfl rfl rfl (pa_cons (pe_op op_add pe_int (pe_fn F_draw (hr.mono (by decide)) (by rfl) (pa_cons (pv 0) (pa_cons pe_int pa_nil)))) (pa_cons (pe_fn F_draw (hr.mono (by decide)) (by rfl) (pa_cons (pv 0) (pa_cons (pe_op op_powW pe_int pe_int) pa_nil))) (pa_cons pe_str pa_nil))) (by rfl))
      (pss_cons (ps_for PassesOwn.never rfl (pi_range1 rfl T.range (pa_cons (pe_op op_add (pe_callB call_len_seq (by rfl) T.len PySem.boot_len (pa_cons (pv 1) pa_nil)) pe_int) pa_nil)) (pg_name (i := 5) sc_law_word.nd rfl (Or.inl rfl))
      (pss_cons (ps_set (i := 4) sc_law_word.nd rfl (Or.inl rfl) (pe_fn F_letters (hr.mono (by decide)) (by rfl) (pa_cons (pe_op op_add (pv 3) (pv 5)) (pa_cons (pv 2) pa_nil))))
      (pss_one (ps_if (PW.pt (pw_and (pt_cmpR op_notIn_seq (pv 4) (pv 1) rfl) (pw_and1 (pt_cmpR op_notIn_seq (pv 4) (pe_lst (pa_cons pe_str (pa_cons pe_str (pa_cons pe_str pa_nil)))) rfl))))
      (pss_one (ps_ret (pv 4)))
      pss_nil))))
      (pss_one (ps_ret (pv 4))))), ?_⟩
    refine ⟨_, rfl, p, n, 8, rfl, hp, by omega, by decide, by decide, fun H1 d1 k1 p1 d10 d11 => ?_⟩
    refine ⟨_, _, rfl, rfl, _, rfl, _, _, rfl, rfl, powW (n := 5) (by decide) (by decide) (by decide) (by decide), p, n + 1, _, rfl, p1, by omega, by decide, by decide, fun H2 d2 k2 p2 d20 d21 => ?_⟩
    refine ⟨_, _, _, rfl, ?_⟩
    have kp : Keep p H H2 := k1.trans k2
    have hS2 : SqL K H2 l (tk.map V.str) := (less_same p H2).seq ((less_keep kp).seq hS)
    refine ⟨_, rfl, l, _, rfl, .inl hS2, _, _, rfl, rfl, _, rfl, ?_, ?_, ?_⟩
    · rw [List.length_map]; omega
    · rw [List.length_map]; omega
    obtain ⟨sz, rfl⟩ : ∃ sz : Nat, d1 = (sz : Int) := ⟨d1.toNat, by omega⟩
    obtain ⟨nu, rfl⟩ : ∃ nu : Nat, d2 = (nu : Int) := ⟨d2.toNat, by omega⟩
    have e0 : ((((tk.map V.str).length : Nat) : Int) + 4 - 0).toNat = tk.length + 4 := by rw [List.length_map]; omega
    refine for_range (lo := 0) (fun i σ H' => ∃ x4 x5 : Option V, σ = [some (.ref p), some (.ref l), some (.int (1 + (sz : Int))), some (.int (nu : Int)), x4, x5] ∧ Keep p H H' ∧ PoolAt H' p (n + 2) ∧ ∀ t, t < i → lettersOf (nu + t) (1 + sz) ∈ tk ∨ lettersOf (nu + t) (1 + sz) ∈ BAR)
      ⟨_, _, rfl, kp, p2, fun _ z => absurd z (Nat.not_lt_zero _)⟩ ?_ ?_
    · rintro i σ H3 hi ⟨x4, x5, rfl, k3, p3, old⟩
      have nub : nu < 2 ^ 40 := by
        have e : ((26 : Int) ^ (8 : Int).toNat) = 208827064576 := by decide
        have : (2 : Nat) ^ 40 = 1099511627776 := by decide
        rw [e] at d21
        omega
      have htl : (tk.map V.str).length = tk.length := List.length_map ..
      have hib : nu + i < 2 ^ 100 := by
        have : (2 : Nat) ^ 40 + 100 < 2 ^ 100 := by decide
        omega
      refine ⟨_, rfl, _, rfl, _, _, rfl, rfl, _, rfl, nu + i, 1 + sz, ?_, hib, by omega, fun H4 s4 => ?_⟩
      · show [V.int ((nu : Int) + (0 + (i : Int))), V.int (1 + (sz : Int))] = _
        have e1 : (nu : Int) + (0 + (i : Int)) = ((nu + i : Nat) : Int) := by omega
        have e2 : 1 + (sz : Int) = ((1 + sz : Nat) : Int) := by omega
        rw [e1, e2]
      have k4 : Keep p H H4 := k3.trans (Keep.of s4)
      have hS4 : SqL K H4 l (tk.map V.str) := (less_same p H4).seq ((less_keep k4).seq hS)
      refine ⟨_, rfl, _, rfl, l, _, rfl, .inl hS4, rfl, flat_strs tk, _, rfl, ?_⟩
      show if (!inV (.str (lettersOf (nu + i) (1 + sz))) (tk.map V.str)) = true then _ else _
      rw [inV_str]
      have nxt : (lettersOf (nu + i) (1 + sz) ∈ tk ∨ lettersOf (nu + i) (1 + sz) ∈ BAR) → ∀ t, t < i + 1 → lettersOf (nu + t) (1 + sz) ∈ tk ∨ lettersOf (nu + t) (1 + sz) ∈ BAR := fun z t ht => by
        rcases Nat.lt_or_ge t i with h | h
        · exact old t h
        · have e : t = i := by omega
          rw [e]
          exact z
      by_cases h1 : lettersOf (nu + i) (1 + sz) ∈ tk
      · rw [decide_eq_true h1]
        exact ⟨_, _, rfl, k4, p3.same s4, nxt (.inl h1)⟩
      · rw [decide_eq_false h1]
        refine iteT ?_
        refine ⟨_, rfl, by show 3 ≤ sizeLine; decide, fun q hq => ?_⟩
        have s5 := s4.trans (same_upd (o := .lst (BAR.map V.str)) hq)
        refine ⟨q, _, rfl, .inl (SqL.of upd_same), rfl, rfl, _, rfl, ?_⟩
        show if (!inV (.str (lettersOf (nu + i) (1 + sz))) (BAR.map V.str)) = true then _ else _
        rw [inV_str]
        by_cases h2 : lettersOf (nu + i) (1 + sz) ∈ BAR
        · rw [decide_eq_true h2]
          exact ⟨_, _, rfl, k3.trans (Keep.of s5), p3.same s5, nxt (.inr h2)⟩
        · rw [decide_eq_false h2]
          refine iteT ?_
          exact ⟨_, rfl, kk _ _ (k3.trans (Keep.of s5)) (p3.same s5) (letters_isW (by omega) (by omega)) h1 h2⟩
    · rintro σ H3 ⟨x4, x5, rfl, k3, p3, old⟩
      exact (word_free (by omega) htk (fun t ht => old t (by rw [← e0] at ht; first | exact ht | (simp only [List.length_map] at ht ⊢; omega)))).elim
end
end Ow
/-! the laws' drawn tables -/
namespace Ow
open PySem PySem.Spec L2
section
variable {P : Program} {w : World} {K : PySem.W.Frag} {mg : Str → Option Value} {base : Heap}
theorem sc_law_tables : FnScope [("_law_pool_here" : Str), ("_law_most" : Str), ("_law_widest" : Str), ("_law_names" : Str), ("_law_k" : Str), ("_law_tables_here" : Str), ("_law_name" : Str), ("_law_columns_here" : Str), ("_law_kind" : Str), ("_law_target" : Str), ("_law_rule" : Str), ("_law_column" : Str)] [("_law_pool_here" : Str), ("_law_most" : Str), ("_law_widest" : Str)] (defScope s_law_tables) := ⟨rfl, rfl, rfl, by decide +kernel, rfl, by decide +kernel, by decide +kernel⟩
theorem ok_tables (D : TopD K mg "_law_tables" s_law_tables) (T : Blt mg) (F_draw : FnAt P w K mg base "_law_draw" [("_law_pool_here" : Str), ("_law_many" : Str)] 1 spDraw) (F_of : FnAt P w K mg base "_law_of" [("_law_pool_here" : Str), ("_law_some" : Str)] 2 (spOf K)) (F_word : FnAt P w K mg base "_law_word" [("_law_pool_here" : Str), ("_law_taken" : Str)] 2 (spWord K)) :
    FnAt P w K mg base "_law_tables" [("_law_pool_here" : Str), ("_law_most" : Str), ("_law_widest" : Str)] 3 (spTables K) := by
  refine fn_at D sc_law_tables (fun _ _ _ _ _ _ us hl => match us, hl with | [_, _, _], _ => rfl) (fun vs H Q E h => ?_) (fun f cdv A outer s H vs Q E hr h => ?_)
  · obtain ⟨p, n, most, wid, rfl, _⟩ := h
    rfl
  · obtain ⟨p, n, most, wid, rfl, hp, hn, hm1, hm5, hw6, kk⟩ := h
    have b60 : (2 : Nat) ^ 50 + 2000 < 2 ^ 60 := by decide
    have b50 : (2 : Nat) ^ 40 + 2000 < 2 ^ 50 := by decide
    refine ⟨_, (pss_cons (ps_set (i := 3) sc_law_tables.nd rfl (Or.inl rfl) (pe_lst pa_nil))
      (pss_cons (ps_for PassesOwn.never rfl (pi_range1 rfl T.range (pa_cons (pe_op op_add pe_int (pe_fn F_draw (hr.mono (by decide)) (by rfl) (pa_cons (pv 0) (pa_cons (pv 1) pa_nil)))) pa_nil)) (pg_name (i := 4) sc_law_tables.nd rfl (Or.inl rfl))
      (pss_one (ps_expr (pe_bm PySem.F.plainAttrs_list PySem.F.slot_list_append PySem.F.type_list_append mt_append (pv 3) (pa_cons (pe_fn F_word (hr.mono (by decide)) (by rfl) (pa_cons (pv 0) (pa_cons (pv 3) pa_nil))) pa_nil)))))
      (pss_cons (ps_set (i := 5) sc_law_tables.nd rfl (Or.inl rfl) (pe_lst pa_nil))
      (pss_cons (ps_for PassesOwn.never rfl (pi_list (pv 3)) (pg_name (i := 6) sc_law_tables.nd rfl (Or.inl rfl))
      (pss_cons (ps_set (i := 7) sc_law_tables.nd rfl (Or.inl rfl) (pe_lst pa_nil))
      (pss_cons (ps_for PassesOwn.never rfl (pi_range1 rfl T.range (pa_cons (pe_fn F_draw (hr.mono (by decide)) (by rfl) (pa_cons (pv 0) (pa_cons (pe_op op_add (pv 2) pe_int) pa_nil))) pa_nil)) (pg_name (i := 4) sc_law_tables.nd rfl (Or.inl rfl))
      (pss_cons (ps_set (i := 8) sc_law_tables.nd rfl (Or.inl rfl) (pe_fn F_of (hr.mono (by decide)) (by rfl) (pa_cons (pv 0) (pa_cons (pe_lst (pa_cons pe_str (pa_cons pe_str (pa_cons pe_str (pa_cons pe_str pa_nil))))) pa_nil))))
      (pss_cons (ps_set (i := 9) sc_law_tables.nd rfl (Or.inl rfl) (pe_ifExp (pt_cmpR op_eq (pv 8) pe_str (nomark _)) (pe_fn F_of (hr.mono (by decide)) (by rfl) (pa_cons (pv 0) (pa_cons (pv 3) pa_nil))) pe_non))
      (pss_cons (ps_set (i := 10) sc_law_tables.nd rfl (Or.inl rfl) (pe_ifExp (pt_cmpR op_eq (pv 8) pe_str (nomark _)) (pe_fn F_of (hr.mono (by decide)) (by rfl) (pa_cons (pv 0) (pa_cons (pe_lst (pa_cons pe_str (pa_cons pe_str (pa_cons pe_str pa_nil)))) pa_nil))) pe_non))
      (pss_one (ps_expr (pe_bm PySem.F.plainAttrs_list PySem.F.slot_list_append PySem.F.type_list_append mt_append (pv 7) (pa_cons (pe_tup (pa_cons (pe_fn F_word (hr.mono (by decide)) (by rfl) (pa_cons (pv 0) (pa_cons (pe_lc (own := [(("_law_column" : Str), 11)]) (by rfl) sc_law_tables.nd (pi_list (pv 7)) (blkOk_by (own := [(("_law_column" : Str), 11)]) (N := [("_law_pool_here" : Str), ("_law_most" : Str), ("_law_widest" : Str), ("_law_names" : Str), ("_law_k" : Str), ("_law_tables_here" : Str), ("_law_name" : Str), ("_law_columns_here" : Str), ("_law_kind" : Str), ("_law_target" : Str), ("_law_rule" : Str), ("_law_column" : Str)]) (sc := defScope s_law_tables) (by decide +kernel)) (fun _ _ _ _ _ => pg_name (i := 11) sc_law_tables.nd rfl (Or.inl rfl)) (fun _ _ _ _ _ => pts_nil) (fun _ _ _ _ _ => (pe_ix (ix_tupK (K := K)) (pv 11) pe_int (fun _ _ => rfl)))) pa_nil))) (pa_cons (pv 8) (pa_cons (pv 9) (pa_cons (pv 10) pa_nil))))) pa_nil))))))))
      (pss_one (ps_expr (pe_bm PySem.F.plainAttrs_list PySem.F.slot_list_append PySem.F.type_list_append mt_append (pv 5) (pa_cons (pe_tup (pa_cons (pv 6) (pa_cons (pv 7) pa_nil))) pa_nil)))))))
      (pss_one (ps_ret (pv 5))))))), ?_⟩
    refine ⟨by show 0 ≤ sizeLine; decide, fun nl hnl => ?_⟩
    have nnp : nl ≠ p := hp.ne hnl
    have s0 := same_upd (o := .lst []) hnl
    refine ⟨_, rfl, _, rfl, p, n, (most : Int), rfl, hp.same s0, by omega, by omega, ?_, fun H1 d1 k1 p1 d10 d11 => ?_⟩
    · have e2 : (1000 : Nat) < 2 ^ 200 := by decide
      omega
    refine ⟨_, _, rfl, rfl, _, rfl, by omega, by omega, ?_⟩
    refine for_range (lo := 0) (fun i σ H' => ∃ (x4 x5 x6 x7 x8 x9 x10 x11 : Option V) (ns : List Str), σ = [some (.ref p), some (.int (most : Int)), some (.int (wid : Int)), some (.ref nl), x4, x5, x6, x7, x8, x9, x10, x11] ∧ Keep p H H' ∧ PoolAt H' p (n + 1 + 2 * i) ∧ H' nl = some (.lst (ns.map V.str)) ∧ NmOk ns ∧ ns.length = i)
      ⟨_, _, _, _, _, _, _, _, [], rfl, (Keep.of s0).trans k1, p1, k1 _ _ nnp upd_same, ⟨.nil, fun _ z => nomatch z⟩, rfl⟩ ?_ ?_
    · rintro i σ H2 hi ⟨x4, x5, x6, x7, x8, x9, x10, x11, ns, rfl, k2, p2, hnl2, nok, hln⟩
      refine ⟨_, rfl, .inl ⟨rfl, _, SqL.of hnl2⟩, _, rfl, _, rfl, p, nl, n + 1 + 2 * i, ns, rfl, p2, by omega, SqL.of (by rw [less_ne nnp]; exact hnl2), by omega, fun H3 z k3 p3 z1 z2 z3 => ?_⟩
      have hnl3 := k3 _ _ nnp hnl2
      refine ⟨nl, _, _, rfl, rfl, hnl3, ?_, ?_⟩
      · rw [List.length_map, sizeLine_eq]
        omega
      refine ⟨_, _, _, _, _, _, _, _, ns ++ [z], rfl, ?_, ?_, ?_, nok.app z1 z2 z3, by rw [List.length_append, hln]; rfl⟩
      · exact fun b o nb e => by
          rw [upd_ne (ne_of_none e hnl)]
          exact k3 _ _ nb (k2 _ _ nb e)
      · obtain ⟨a, b, c, q, r⟩ := p3.mono (show n + 1 + 2 * i + 2 ≤ n + 1 + 2 * (i + 1) by omega)
        exact ⟨a, b, c, by rw [upd_ne nnp.symm]; exact q, r⟩
      · rw [upd_same, List.map_append]
        rfl
    · rintro σ H2 ⟨x4, x5, x6, x7, x8, x9, x10, x11, ns, rfl, k2, p2, hnl2, nok, hln⟩
      have hl5 : 1 ≤ ns.length ∧ ns.length ≤ 5 := by omega
      have p2 : PoolAt H2 p (n + 11) := p2.mono (by omega)
      clear hln
      refine ⟨by show 0 ≤ sizeLine; decide, fun tl htl => ?_⟩
      have s2 := same_upd (o := .lst []) htl
      have ntp : tl ≠ p := p2.ne htl
      have ntn : nl ≠ tl := ne_of_none hnl2 htl
      have htl0 : H tl = none := by
        cases e : H tl with
        | none => rfl
        | some o => rw [k2 _ _ ntp e] at htl; cases htl
      refine ⟨_, rfl, nl, rfl, ⟨_, SqL.of (s2 _ _ hnl2)⟩, ?_⟩
      refine for_list (K := K) (a := nl) (xs := ns.map V.str) (fun i σ H' => ∃ (x4 x6 x7 x8 x9 x10 x11 : Option V) (ts : List Tab) (xs : List V), σ = [some (.ref p), some (.int (most : Int)), some (.int (wid : Int)), some (.ref nl), x4, some (.ref tl), x6, x7, x8, x9, x10, x11] ∧ Keep p H H' ∧ PoolAt H' p (n + 11 + 40 * i) ∧
        H' nl = some (.lst (ns.map V.str)) ∧ H' tl = some (.lst xs) ∧ DpAll K (less tl (less p H')) xs (ts.map dTab) ∧ ts.map Prod.fst = ns.take i ∧ ∀ t ∈ ts, ClOk ns t.2 ∧ t.2.length ≤ wid)
        ⟨_, _, _, _, _, _, _, [], [], rfl, k2.trans (Keep.of s2), p2.same s2, s2 _ _ hnl2, upd_same, .nil, rfl, (fun _ z => nomatch z)⟩ (fun i σ H' _ ⟨_, _, _, _, _, _, _, _, _, _, _, _, h, _⟩ => SqL.of h) ?_ ?_
      · rintro i x σ H3 hx ⟨x4, x6, x7, x8, x9, x10, x11, ts, xs, rfl, k3, p3, hnl3, htl3, dp3, hts, hok⟩
        rw [List.getElem?_map] at hx
        obtain ⟨nm, hx2, rfl⟩ := Option.map_eq_some_iff.mp hx
        clear hx
        have hi : i < ns.length := (List.getElem?_eq_some_iff.mp hx2).1
        refine ⟨by show 0 ≤ sizeLine; decide, fun cl hcl => ?_⟩
        have s4 := same_upd (o := .lst []) hcl
        have ncp : cl ≠ p := p3.ne hcl
        have nct : tl ≠ cl := ne_of_none htl3 hcl
        refine ⟨_, rfl, _, rfl, _, _, rfl, rfl, p, _, (wid : Int) + 1, rfl, p3.same s4, by omega, by omega, ?_, fun H5 d5 k5 p5 d50 d51 => ?_⟩
        · have e2 : (1000 : Nat) < 2 ^ 200 := by decide
          omega
        refine ⟨_, rfl, by omega, by omega, ?_⟩
        refine for_range (lo := 0) (fun j σ H' => ∃ (y4 y8 y9 y10 y11 : Option V) (cs : List Col) (ys : List V), σ = [some (.ref p), some (.int (most : Int)), some (.int (wid : Int)), some (.ref nl), y4, some (.ref tl), some (.str nm), some (.ref cl), y8, y9, y10, y11] ∧ Keep p H3 H' ∧ PoolAt H' p (n + 11 + 40 * i + 1 + 5 * j) ∧
          H' cl = some (.lst ys) ∧ DpAll K (tups H') ys (cs.map dCol) ∧ ClOk ns cs ∧ cs.length = j)
          ⟨_, _, _, _, _, [], [], rfl, (Keep.of s4).trans k5, p5, k5 _ _ ncp upd_same, .nil, ⟨.nil, fun _ z => nomatch z⟩, rfl⟩ ?_ ?_
        · rintro j σ H6 hj ⟨y4, y8, y9, y10, y11, cs, ys, rfl, k6, p6, hcl6, dp6, cok, hcs⟩
          have hj6 : j < 6 := by omega
          refine ⟨_, rfl, by show 4 ≤ sizeLine; decide, fun q1 hq1 => ?_⟩
          have s7 := same_upd (o := .lst [V.str ("link" : Str), V.str ("value" : Str), V.str ("flag" : Str), V.str ("link" : Str)]) hq1
          refine ⟨p, q1, _, _, rfl, p6.same s7, by omega, SqL.of upd_same, p6.ne hq1, by decide, by decide, fun H7 v k7 p7 hv => ?_⟩
          have kh7 : Keep p H6 H7 := (Keep.of s7).trans k7
          simp only [List.mem_cons, List.not_mem_nil, or_false] at hv
          rcases hv with rfl | rfl | rfl | rfl
          · refine ⟨_, rfl, rfl, _, rfl, ?_⟩
            refine ite2 (fun _ => ?_) (fun z => absurd (decide_eq_true rfl) z)
            have hnl7 : H7 nl = some (.lst (ns.map V.str)) := kh7 _ _ nnp (k6 _ _ nnp hnl3)
            refine ⟨_, rfl, _, rfl, p, nl, _, ns.map V.str, rfl, p7, by omega, SqL.of hnl7, nnp, by rw [List.length_map]; omega, by rw [List.length_map]; omega, fun H8 v8 k8 p8 hv8 => ?_⟩
            obtain ⟨tg, htg, rfl⟩ := List.mem_map.mp hv8
            refine ⟨_, rfl, rfl, _, rfl, ?_⟩
            refine ite2 (fun _ => ?_) (fun z => absurd (decide_eq_true rfl) z)
            refine ⟨_, rfl, by show 3 ≤ sizeLine; decide, fun q2 hq2 => ?_⟩
            have s9 := same_upd (o := .lst (RUL.map V.str)) hq2
            refine ⟨p, q2, _, _, rfl, p8.same s9, by omega, SqL.of upd_same, p8.ne hq2, by decide, by decide, fun H9 v9 k9 p9 hv9 => ?_⟩
            obtain ⟨ru, hru, rfl⟩ := List.mem_map.mp (show v9 ∈ RUL.map V.str from hv9)
            have kX : Keep p H6 H9 := kh7.trans (k8.trans ((Keep.of s9).trans k9))
            have hco : ∀ z : Str, isW z = true → z ∉ BAR → ColOk ns ⟨z, ("link" : Str), some tg, some ru⟩ := fun z z1 z3 => ⟨z1, z3, .inl ⟨rfl, tg, ru, rfl, rfl, htg, hru⟩⟩
            have hclX := kX _ _ ncp hcl6
            have sX : Same (tups H6) (tups H9) := tups_keep kX p6
            have dpX := DpAll.same sX _ _ dp6
            have hyl := DpAll.len dp6
            rw [List.length_map] at hyl
            refine ⟨_, rfl, .inl ⟨rfl, _, SqL.of hclX⟩, _, rfl, _, rfl, cl, rfl, ⟨_, SqL.of hclX⟩, fun L hL => ?_⟩
            refine lc_list (K := K) (a := cl) (xs := ys) (fun e H' => H' L = some (.lst ((cs.take e).map fun c => V.str c.name)) ∧ Same H9 H') ⟨upd_same, same_upd hL⟩ (fun _ _ _ ⟨_, s'⟩ => SqL.of (s' _ _ hclX)) ?_ ?_
            · rintro e y H' hy ⟨hL', s'⟩
              obtain ⟨c, hc1, hc2⟩ := dp_at dpX hy
              obtain ⟨ac, rfl, hac⟩ := dCol_inv hc2
              refine ⟨rfl, yes_ ⟨_, rfl, ac, _, _, _, rfl, rfl, Same.sqT ((tups_in _).trans s') hac, atI_nat (j := 0) rfl, _, hL', ?_, ?_, ?_⟩⟩
              · rw [List.length_map, List.length_take, sizeLine_eq]
                omega
              · rw [upd_same, List.take_add_one, hc1, List.map_append]
                rfl
              · exact fun b o q => by rw [upd_ne (ne_of_none q hL)]; exact s' _ _ q
            · rintro H10 ⟨hL10, s10⟩
              rw [hyl, List.take_length] at hL10
              have hL10 : H10 L = some (.lst ((cs.map Col.name).map V.str)) := by rw [List.map_map]; exact hL10
              refine ⟨p, L, _, cs.map Col.name, rfl, p9.same s10, by omega, SqL.of (by rw [less_ne (p9.ne hL)]; exact hL10), by rw [List.length_map]; omega, fun H11 z k11 p11 z1 z2 z3 => ?_⟩
              have hcl11 := k11 _ _ ncp (s10 _ _ hclX)
              refine ⟨_, rfl, _, rfl, _, rfl, by show 4 ≤ sizeLine; decide, fun tt htt => ?_⟩
              have s12 := same_upd (o := .tup [V.str z, V.str ("link" : Str), oV (some tg), oV (some ru)]) htt
              have ntc : cl ≠ tt := ne_of_none hcl11 htt
              refine ⟨cl, _, _, rfl, rfl, s12 _ _ hcl11, ?_, ?_⟩
              · rw [sizeLine_eq]
                omega
              refine ⟨_, _, _, _, _, cs ++ [⟨z, ("link" : Str), (some tg), (some ru)⟩], ys ++ [.ref tt], rfl, ?_, ?_, upd_same, ?_, cok.app z2 (hco z z1 z3), by rw [List.length_append, hcs]; rfl⟩
              · exact fun b o nb q => by
                  rw [upd_ne (ne_of_none q hcl)]
                  exact s12 _ _ (k11 _ _ nb (s10 _ _ (kX _ _ nb (k6 _ _ nb q))))
              · obtain ⟨a, b, c, q, r⟩ := (p11.same s12).mono (show _ ≤ n + 11 + 40 * i + 1 + 5 * (j + 1) by omega)
                exact ⟨a, b, c, by rw [upd_ne ncp.symm]; exact q, r⟩
              · have sF : Same (tups H9) (tups (upd (upd H11 tt (.tup [V.str z, V.str ("link" : Str), oV (some tg), oV (some ru)])) cl (.lst (ys ++ [V.ref tt])))) :=
                  (tups_same s10).trans ((tups_keep k11 (p9.same s10)).trans ((tups_same s12).trans (tups_lst (s12 _ _ hcl11))))
                rw [List.map_append]
                exact DpAll.app (DpAll.same sF _ _ dpX) (.cons (.tup (SqT.of (tups_at (by rw [upd_ne ntc.symm]; exact upd_same))) (.cons (.str z) (.cons (.str _) (.cons (dp_oV _) (.cons (dp_oV _) .nil))))) .nil)
          · refine ⟨_, rfl, rfl, _, rfl, ?_⟩
            refine ite2 (fun z => absurd (of_decide_eq_true z) (by decide)) (fun _ => ?_)
            refine ⟨_, rfl, rfl, _, rfl, ?_⟩
            refine ite2 (fun z => absurd (of_decide_eq_true z) (by decide)) (fun _ => ?_)
            have hco : ∀ z : Str, isW z = true → z ∉ BAR → ColOk ns ⟨z, ("value" : Str), none, none⟩ := fun z z1 z3 => ⟨z1, z3, .inr ⟨.inl rfl, rfl, rfl⟩⟩
            have hclX := kh7 _ _ ncp hcl6
            have sX : Same (tups H6) (tups H7) := tups_keep kh7 p6
            have dpX := DpAll.same sX _ _ dp6
            have hyl := DpAll.len dp6
            rw [List.length_map] at hyl
            refine ⟨_, rfl, .inl ⟨rfl, _, SqL.of hclX⟩, _, rfl, _, rfl, cl, rfl, ⟨_, SqL.of hclX⟩, fun L hL => ?_⟩
            refine lc_list (K := K) (a := cl) (xs := ys) (fun e H' => H' L = some (.lst ((cs.take e).map fun c => V.str c.name)) ∧ Same H7 H') ⟨upd_same, same_upd hL⟩ (fun _ _ _ ⟨_, s'⟩ => SqL.of (s' _ _ hclX)) ?_ ?_
            · rintro e y H' hy ⟨hL', s'⟩
              obtain ⟨c, hc1, hc2⟩ := dp_at dpX hy
              obtain ⟨ac, rfl, hac⟩ := dCol_inv hc2
              refine ⟨rfl, yes_ ⟨_, rfl, ac, _, _, _, rfl, rfl, Same.sqT ((tups_in _).trans s') hac, atI_nat (j := 0) rfl, _, hL', ?_, ?_, ?_⟩⟩
              · rw [List.length_map, List.length_take, sizeLine_eq]
                omega
              · rw [upd_same, List.take_add_one, hc1, List.map_append]
                rfl
              · exact fun b o q => by rw [upd_ne (ne_of_none q hL)]; exact s' _ _ q
            · rintro H10 ⟨hL10, s10⟩
              rw [hyl, List.take_length] at hL10
              have hL10 : H10 L = some (.lst ((cs.map Col.name).map V.str)) := by rw [List.map_map]; exact hL10
              refine ⟨p, L, _, cs.map Col.name, rfl, p7.same s10, by omega, SqL.of (by rw [less_ne (p7.ne hL)]; exact hL10), by rw [List.length_map]; omega, fun H11 z k11 p11 z1 z2 z3 => ?_⟩
              have hcl11 := k11 _ _ ncp (s10 _ _ hclX)
              refine ⟨_, rfl, _, rfl, _, rfl, by show 4 ≤ sizeLine; decide, fun tt htt => ?_⟩
              have s12 := same_upd (o := .tup [V.str z, V.str ("value" : Str), oV none, oV none]) htt
              have ntc : cl ≠ tt := ne_of_none hcl11 htt
              refine ⟨cl, _, _, rfl, rfl, s12 _ _ hcl11, ?_, ?_⟩
              · rw [sizeLine_eq]
                omega
              refine ⟨_, _, _, _, _, cs ++ [⟨z, ("value" : Str), none, none⟩], ys ++ [.ref tt], rfl, ?_, ?_, upd_same, ?_, cok.app z2 (hco z z1 z3), by rw [List.length_append, hcs]; rfl⟩
              · exact fun b o nb q => by
                  rw [upd_ne (ne_of_none q hcl)]
                  exact s12 _ _ (k11 _ _ nb (s10 _ _ (kh7 _ _ nb (k6 _ _ nb q))))
              · obtain ⟨a, b, c, q, r⟩ := (p11.same s12).mono (show _ ≤ n + 11 + 40 * i + 1 + 5 * (j + 1) by omega)
                exact ⟨a, b, c, by rw [upd_ne ncp.symm]; exact q, r⟩
              · have sF : Same (tups H7) (tups (upd (upd H11 tt (.tup [V.str z, V.str ("value" : Str), oV none, oV none])) cl (.lst (ys ++ [V.ref tt])))) :=
                  (tups_same s10).trans ((tups_keep k11 (p7.same s10)).trans ((tups_same s12).trans (tups_lst (s12 _ _ hcl11))))
                rw [List.map_append]
                exact DpAll.app (DpAll.same sF _ _ dpX) (.cons (.tup (SqT.of (tups_at (by rw [upd_ne ntc.symm]; exact upd_same))) (.cons (.str z) (.cons (.str _) (.cons (dp_oV _) (.cons (dp_oV _) .nil))))) .nil)
          · refine ⟨_, rfl, rfl, _, rfl, ?_⟩
            refine ite2 (fun z => absurd (of_decide_eq_true z) (by decide)) (fun _ => ?_)
            refine ⟨_, rfl, rfl, _, rfl, ?_⟩
            refine ite2 (fun z => absurd (of_decide_eq_true z) (by decide)) (fun _ => ?_)
            have hco : ∀ z : Str, isW z = true → z ∉ BAR → ColOk ns ⟨z, ("flag" : Str), none, none⟩ := fun z z1 z3 => ⟨z1, z3, .inr ⟨.inr rfl, rfl, rfl⟩⟩
            have hclX := kh7 _ _ ncp hcl6
            have sX : Same (tups H6) (tups H7) := tups_keep kh7 p6
            have dpX := DpAll.same sX _ _ dp6
            have hyl := DpAll.len dp6
            rw [List.length_map] at hyl
            refine ⟨_, rfl, .inl ⟨rfl, _, SqL.of hclX⟩, _, rfl, _, rfl, cl, rfl, ⟨_, SqL.of hclX⟩, fun L hL => ?_⟩
            refine lc_list (K := K) (a := cl) (xs := ys) (fun e H' => H' L = some (.lst ((cs.take e).map fun c => V.str c.name)) ∧ Same H7 H') ⟨upd_same, same_upd hL⟩ (fun _ _ _ ⟨_, s'⟩ => SqL.of (s' _ _ hclX)) ?_ ?_
            · rintro e y H' hy ⟨hL', s'⟩
              obtain ⟨c, hc1, hc2⟩ := dp_at dpX hy
              obtain ⟨ac, rfl, hac⟩ := dCol_inv hc2
              refine ⟨rfl, yes_ ⟨_, rfl, ac, _, _, _, rfl, rfl, Same.sqT ((tups_in _).trans s') hac, atI_nat (j := 0) rfl, _, hL', ?_, ?_, ?_⟩⟩
              · rw [List.length_map, List.length_take, sizeLine_eq]
                omega
              · rw [upd_same, List.take_add_one, hc1, List.map_append]
                rfl
              · exact fun b o q => by rw [upd_ne (ne_of_none q hL)]; exact s' _ _ q
            · rintro H10 ⟨hL10, s10⟩
              rw [hyl, List.take_length] at hL10
              have hL10 : H10 L = some (.lst ((cs.map Col.name).map V.str)) := by rw [List.map_map]; exact hL10
              refine ⟨p, L, _, cs.map Col.name, rfl, p7.same s10, by omega, SqL.of (by rw [less_ne (p7.ne hL)]; exact hL10), by rw [List.length_map]; omega, fun H11 z k11 p11 z1 z2 z3 => ?_⟩
              have hcl11 := k11 _ _ ncp (s10 _ _ hclX)
              refine ⟨_, rfl, _, rfl, _, rfl, by show 4 ≤ sizeLine; decide, fun tt htt => ?_⟩
              have s12 := same_upd (o := .tup [V.str z, V.str ("flag" : Str), oV none, oV none]) htt
              have ntc : cl ≠ tt := ne_of_none hcl11 htt
              refine ⟨cl, _, _, rfl, rfl, s12 _ _ hcl11, ?_, ?_⟩
              · rw [sizeLine_eq]
                omega
              refine ⟨_, _, _, _, _, cs ++ [⟨z, ("flag" : Str), none, none⟩], ys ++ [.ref tt], rfl, ?_, ?_, upd_same, ?_, cok.app z2 (hco z z1 z3), by rw [List.length_append, hcs]; rfl⟩
              · exact fun b o nb q => by
                  rw [upd_ne (ne_of_none q hcl)]
                  exact s12 _ _ (k11 _ _ nb (s10 _ _ (kh7 _ _ nb (k6 _ _ nb q))))
              · obtain ⟨a, b, c, q, r⟩ := (p11.same s12).mono (show _ ≤ n + 11 + 40 * i + 1 + 5 * (j + 1) by omega)
                exact ⟨a, b, c, by rw [upd_ne ncp.symm]; exact q, r⟩
              · have sF : Same (tups H7) (tups (upd (upd H11 tt (.tup [V.str z, V.str ("flag" : Str), oV none, oV none])) cl (.lst (ys ++ [V.ref tt])))) :=
                  (tups_same s10).trans ((tups_keep k11 (p7.same s10)).trans ((tups_same s12).trans (tups_lst (s12 _ _ hcl11))))
                rw [List.map_append]
                exact DpAll.app (DpAll.same sF _ _ dpX) (.cons (.tup (SqT.of (tups_at (by rw [upd_ne ntc.symm]; exact upd_same))) (.cons (.str z) (.cons (.str _) (.cons (dp_oV _) (.cons (dp_oV _) .nil))))) .nil)
          · refine ⟨_, rfl, rfl, _, rfl, ?_⟩
            refine ite2 (fun _ => ?_) (fun z => absurd (decide_eq_true rfl) z)
            have hnl7 : H7 nl = some (.lst (ns.map V.str)) := kh7 _ _ nnp (k6 _ _ nnp hnl3)
            refine ⟨_, rfl, _, rfl, p, nl, _, ns.map V.str, rfl, p7, by omega, SqL.of hnl7, nnp, by rw [List.length_map]; omega, by rw [List.length_map]; omega, fun H8 v8 k8 p8 hv8 => ?_⟩
            obtain ⟨tg, htg, rfl⟩ := List.mem_map.mp hv8
            refine ⟨_, rfl, rfl, _, rfl, ?_⟩
            refine ite2 (fun _ => ?_) (fun z => absurd (decide_eq_true rfl) z)
            refine ⟨_, rfl, by show 3 ≤ sizeLine; decide, fun q2 hq2 => ?_⟩
            have s9 := same_upd (o := .lst (RUL.map V.str)) hq2
            refine ⟨p, q2, _, _, rfl, p8.same s9, by omega, SqL.of upd_same, p8.ne hq2, by decide, by decide, fun H9 v9 k9 p9 hv9 => ?_⟩
            obtain ⟨ru, hru, rfl⟩ := List.mem_map.mp (show v9 ∈ RUL.map V.str from hv9)
            have kX : Keep p H6 H9 := kh7.trans (k8.trans ((Keep.of s9).trans k9))
            have hco : ∀ z : Str, isW z = true → z ∉ BAR → ColOk ns ⟨z, ("link" : Str), some tg, some ru⟩ := fun z z1 z3 => ⟨z1, z3, .inl ⟨rfl, tg, ru, rfl, rfl, htg, hru⟩⟩
            have hclX := kX _ _ ncp hcl6
            have sX : Same (tups H6) (tups H9) := tups_keep kX p6
            have dpX := DpAll.same sX _ _ dp6
            have hyl := DpAll.len dp6
            rw [List.length_map] at hyl
            refine ⟨_, rfl, .inl ⟨rfl, _, SqL.of hclX⟩, _, rfl, _, rfl, cl, rfl, ⟨_, SqL.of hclX⟩, fun L hL => ?_⟩
            refine lc_list (K := K) (a := cl) (xs := ys) (fun e H' => H' L = some (.lst ((cs.take e).map fun c => V.str c.name)) ∧ Same H9 H') ⟨upd_same, same_upd hL⟩ (fun _ _ _ ⟨_, s'⟩ => SqL.of (s' _ _ hclX)) ?_ ?_
            · rintro e y H' hy ⟨hL', s'⟩
              obtain ⟨c, hc1, hc2⟩ := dp_at dpX hy
              obtain ⟨ac, rfl, hac⟩ := dCol_inv hc2
              refine ⟨rfl, yes_ ⟨_, rfl, ac, _, _, _, rfl, rfl, Same.sqT ((tups_in _).trans s') hac, atI_nat (j := 0) rfl, _, hL', ?_, ?_, ?_⟩⟩
              · rw [List.length_map, List.length_take, sizeLine_eq]
                omega
              · rw [upd_same, List.take_add_one, hc1, List.map_append]
                rfl
              · exact fun b o q => by rw [upd_ne (ne_of_none q hL)]; exact s' _ _ q
            · rintro H10 ⟨hL10, s10⟩
              rw [hyl, List.take_length] at hL10
              have hL10 : H10 L = some (.lst ((cs.map Col.name).map V.str)) := by rw [List.map_map]; exact hL10
              refine ⟨p, L, _, cs.map Col.name, rfl, p9.same s10, by omega, SqL.of (by rw [less_ne (p9.ne hL)]; exact hL10), by rw [List.length_map]; omega, fun H11 z k11 p11 z1 z2 z3 => ?_⟩
              have hcl11 := k11 _ _ ncp (s10 _ _ hclX)
              refine ⟨_, rfl, _, rfl, _, rfl, by show 4 ≤ sizeLine; decide, fun tt htt => ?_⟩
              have s12 := same_upd (o := .tup [V.str z, V.str ("link" : Str), oV (some tg), oV (some ru)]) htt
              have ntc : cl ≠ tt := ne_of_none hcl11 htt
              refine ⟨cl, _, _, rfl, rfl, s12 _ _ hcl11, ?_, ?_⟩
              · rw [sizeLine_eq]
                omega
              refine ⟨_, _, _, _, _, cs ++ [⟨z, ("link" : Str), (some tg), (some ru)⟩], ys ++ [.ref tt], rfl, ?_, ?_, upd_same, ?_, cok.app z2 (hco z z1 z3), by rw [List.length_append, hcs]; rfl⟩
              · exact fun b o nb q => by
                  rw [upd_ne (ne_of_none q hcl)]
                  exact s12 _ _ (k11 _ _ nb (s10 _ _ (kX _ _ nb (k6 _ _ nb q))))
              · obtain ⟨a, b, c, q, r⟩ := (p11.same s12).mono (show _ ≤ n + 11 + 40 * i + 1 + 5 * (j + 1) by omega)
                exact ⟨a, b, c, by rw [upd_ne ncp.symm]; exact q, r⟩
              · have sF : Same (tups H9) (tups (upd (upd H11 tt (.tup [V.str z, V.str ("link" : Str), oV (some tg), oV (some ru)])) cl (.lst (ys ++ [V.ref tt])))) :=
                  (tups_same s10).trans ((tups_keep k11 (p9.same s10)).trans ((tups_same s12).trans (tups_lst (s12 _ _ hcl11))))
                rw [List.map_append]
                exact DpAll.app (DpAll.same sF _ _ dpX) (.cons (.tup (SqT.of (tups_at (by rw [upd_ne ntc.symm]; exact upd_same))) (.cons (.str z) (.cons (.str _) (.cons (dp_oV _) (.cons (dp_oV _) .nil))))) .nil)
        · rintro σ H6 ⟨y4, y8, y9, y10, y11, cs, ys, rfl, k6, p6, hcl6, dp6, cok, hcs⟩
          have htl6 := k6 _ _ ntp htl3
          refine ⟨_, rfl, .inl ⟨rfl, _, SqL.of htl6⟩, _, rfl, _, rfl, by show 2 ≤ sizeLine; decide, fun tt htt => ?_⟩
          have s7 := same_upd (o := .tup [V.str nm, V.ref cl]) htt
          have ntt : tl ≠ tt := ne_of_none htl6 htt
          have npt : tt ≠ p := p6.ne htt
          have hxl := DpAll.len dp3
          have e1 : ts.length ≤ 5 := by
            have := congrArg List.length hts
            rw [List.length_map, List.length_take] at this
            omega
          rw [List.length_map] at hxl
          refine ⟨tl, _, _, rfl, rfl, s7 _ _ htl6, by rw [sizeLine_eq]; omega, ?_⟩
          refine ⟨_, _, _, _, _, _, _, ts ++ [(nm, cs)], xs ++ [.ref tt], rfl, ?_, ?_, ?_, upd_same, ?_, ?_, ?_⟩
          · exact fun b o nb q => by
              rw [upd_ne (ne_of_none q htl0)]
              exact s7 _ _ (k6 _ _ nb (k3 _ _ nb q))
          · obtain ⟨a, b, c, q, r⟩ := (p6.same s7).mono (show _ ≤ n + 11 + 40 * (i + 1) by omega)
            exact ⟨a, b, c, by rw [upd_ne ntp.symm]; exact q, r⟩
          · rw [upd_ne ntn]
            exact s7 _ _ (k6 _ _ nnp hnl3)
          · have sA : Same (less tl (less p H3)) (less tl (less p (upd (upd H6 tt (.tup [V.str nm, V.ref cl])) tl (.lst (xs ++ [V.ref tt]))))) := fun b o q => by
              obtain ⟨n1, q⟩ := less_some q
              obtain ⟨n2, q⟩ := less_some q
              rw [less_ne n1, less_ne n2, upd_ne n1]
              exact s7 _ _ (k6 _ _ n2 q)
            have sB : Same (tups H6) (less tl (less p (upd (upd H6 tt (.tup [V.str nm, V.ref cl])) tl (.lst (xs ++ [V.ref tt]))))) := fun b o q => by
              obtain ⟨zs, rfl, q2⟩ := tups_some q
              obtain ⟨_, _, _, ep, _⟩ := p6
              have n1 : b ≠ tl := ne_of q2 htl6 fun z => nomatch z
              have n2 : b ≠ p := ne_of q2 ep fun z => nomatch z
              rw [less_ne n1, less_ne n2, upd_ne n1]
              exact s7 _ _ q2
            rw [List.map_append]
            refine DpAll.app (DpAll.same sA _ _ dp3) (.cons (.tup (SqT.of ?_) (.cons (.str nm) (.cons (.lst (a := cl) (SqL.of ?_) (DpAll.same sB _ _ dp6)) .nil))) .nil)
            · rw [less_ne ntt.symm, less_ne npt, upd_ne ntt.symm]
              exact upd_same
            · rw [less_ne nct.symm, less_ne ncp, upd_ne nct.symm]
              exact s7 _ _ hcl6
          · rw [List.map_append, hts, List.take_add_one, hx2]
            rfl
          · intro t ht
            rcases List.mem_append.mp ht with z | z
            · exact hok t z
            · rw [List.mem_singleton.mp z]
              exact ⟨cok, by show cs.length ≤ wid; omega⟩
      · rintro σ H3 ⟨x4, x6, x7, x8, x9, x10, x11, ts, xs, rfl, k3, p3, hnl3, htl3, dp3, hts, hok⟩
        rw [List.length_map] at p3 hts
        rw [List.take_length] at hts
        refine ⟨_, rfl, kk _ tl ts k3 htl0 (p3.mono (by omega)) (.lst (SqL.of (by rw [less_ne ntp]; exact htl3)) (DpAll.same (less_same _ _) _ _ dp3)) ?_ fun t ht => (hok t ht).2⟩
        have e1 : ts.length = ns.length := by
          have := congrArg List.length hts
          rwa [List.length_map] at this
        refine ⟨by omega, by omega, by rw [hts]; exact nok.1, fun t ht => ?_⟩
        have hm : t.1 ∈ ns := by rw [← hts]; exact List.mem_map_of_mem (f := Prod.fst) ht
        refine ⟨(nok.2 _ hm).1, Nat.le_trans (hok t ht).2 hw6, (hok t ht).1.nd, ?_⟩
        rw [hts]
        exact (hok t ht).1.cols
end
end Ow
/-! the laws' lines of a schema -/
namespace Ow
open PySem PySem.Spec L2
section
variable {P : Program} {w : World} {K : PySem.W.Frag} {mg : Str → Option Value} {base : Heap}
theorem sc_law_lines : FnScope [("_law_tables_here" : Str), ("_law_lines_here" : Str), ("_law_name" : Str), ("_law_columns_here" : Str), ("_law_column" : Str), ("_law_kind" : Str), ("_law_target" : Str), ("_law_rule" : Str)] [("_law_tables_here" : Str)] (defScope s_law_lines) := ⟨rfl, rfl, rfl, by decide +kernel, rfl, by decide +kernel, by decide +kernel⟩
theorem ok_lines (D : TopD K mg "_law_lines" s_law_lines) (T : Blt mg) : FnAt P w K mg base "_law_lines" [("_law_tables_here" : Str)] 1 (spLines K) := by
  refine fn_at D sc_law_lines (fun _ _ _ _ _ _ us hl => match us, hl with | [_], _ => rfl) (fun vs H Q E h => ?_) (fun f cdv A outer s H vs Q E hr h => ?_)
  · obtain ⟨l, ts, rfl, _⟩ := h
    rfl
  · obtain ⟨l, ts, rfl, hdp, ok, kk⟩ := h
    have hnm := ok.names
    obtain ⟨_, xs, el, hS, dpa⟩ := Dp.lst_inv hdp
    cases el
    have hxl := DpAll.len dpa
    rw [List.length_map] at hxl
    refine ⟨_, (pss_cons (ps_set (i := 1) sc_law_lines.nd rfl (Or.inl rfl) (pe_lst pa_nil))
      (pss_cons (ps_for PassesOwn.never rfl (pi_list (pv 0)) (pg_tup rfl (pgs_cons (pg_name (i := 2) sc_law_lines.nd rfl (Or.inl rfl)) (pgs_cons (pg_name (i := 3) sc_law_lines.nd rfl (Or.inl rfl)) pgs_nil)))
      (pss_cons (ps_expr (pe_bm PySem.F.plainAttrs_list PySem.F.slot_list_append PySem.F.type_list_append mt_append (pv 1) (pa_cons (pe_op op_add_str pe_str (pv 2)) pa_nil)))
      (pss_one (ps_for PassesOwn.never rfl (pi_list (pv 3)) (pg_tup rfl (pgs_cons (pg_name (i := 4) sc_law_lines.nd rfl (Or.inl rfl)) (pgs_cons (pg_name (i := 5) sc_law_lines.nd rfl (Or.inl rfl)) (pgs_cons (pg_name (i := 6) sc_law_lines.nd rfl (Or.inl rfl)) (pgs_cons (pg_name (i := 7) sc_law_lines.nd rfl (Or.inl rfl)) pgs_nil)))))
      (pss_one (ps_expr (pe_bm PySem.F.plainAttrs_list PySem.F.slot_list_append PySem.F.type_list_append mt_append (pv 1) (pa_cons (pe_op op_add_str (pe_op op_add_str (pe_op op_add_str (pv 5) pe_str) (pv 4)) (pe_ifExp (pt_cmpR op_eq (pv 5) pe_str (nomark _)) (pe_op op_add_str (pe_op op_add_str (pe_op op_add_str pe_str (pv 6)) pe_str) (pv 7)) pe_str)) pa_nil))))))))
      (pss_one (ps_ret (pv 1))))), ?_⟩
    refine ⟨by show 0 ≤ sizeLine; decide, fun q hq => ?_⟩
    have s0 := same_upd (o := .lst []) hq
    refine ⟨_, rfl, l, rfl, ⟨_, s0.seq hS⟩, ?_⟩
    refine for_list (K := K) (a := l) (xs := xs) (fun i σ H' => ∃ (x2 x3 x4 x5 x6 x7 : Option V), σ = [some (.ref l), some (.ref q), x2, x3, x4, x5, x6, x7] ∧ Same H H' ∧ H' q = some (.lst ((linesOf (ts.take i)).map V.str)))
      ⟨_, _, _, _, _, _, rfl, s0, upd_same⟩ (fun i σ H' _ ⟨_, _, _, _, _, _, _, s1, _⟩ => s1.seq hS) ?_ ?_
    · rintro i x σ H1 hx ⟨x2, x3, x4, x5, x6, x7, rfl, s1, hq1⟩
      obtain ⟨t, ht, hdt⟩ := dp_at dpa hx
      obtain ⟨a, cl, rfl, hat, hcd⟩ := dTab_inv hdt
      obtain ⟨_, ys, ec, hcS, dpc⟩ := Dp.lst_inv hcd
      cases ec
      have hyl := DpAll.len dpc
      rw [List.length_map] at hyl
      have tok := ok.tab t (List.mem_of_getElem? ht)
      have hi : i < ts.length := (List.getElem?_eq_some_iff.mp ht).1
      have h8 := (isW_len tok.w).2
      have few := ok.few
      have l7 := lines_len (ts := ts.take i) fun u hu => (ok.tab u (List.mem_of_mem_take hu)).few
      rw [List.length_take] at l7
      refine ⟨a, _, rfl, Same.sqT s1 hat, rfl, _, _, rfl, _, _, rfl, rfl, ?_⟩
      have e6 : (("table " : Str)).length = 6 := by decide +kernel
      refine ⟨_, rfl, .inl ⟨rfl, _, SqL.of hq1⟩, _, rfl, _, _, rfl, rfl, by rw [e6, sizeLine_eq]; omega, q, _, _, rfl, rfl, hq1, by rw [List.length_map, sizeLine_eq]; omega, ?_⟩
      have s2 : Same H (upd H1 q (.lst ((linesOf (ts.take i)).map V.str ++ [V.str (("table " : Str) ++ t.1)]))) := fun b o e => by rw [upd_ne (ne_of_none e hq)]; exact s1 _ _ e
      refine ⟨_, rfl, cl, rfl, ⟨_, s2.seq hcS⟩, ?_⟩
      refine for_list (K := K) (a := cl) (xs := ys) (fun j σ H' => ∃ (x4 x5 x6 x7 : Option V), σ = [some (.ref l), some (.ref q), some (.str t.1), some (.ref cl), x4, x5, x6, x7] ∧ Same H H' ∧ H' q = some (.lst ((linesOf (ts.take i) ++ (("table " : Str) ++ t.1) :: (t.2.take j).map lnC).map V.str)))
        ⟨_, _, _, _, rfl, s2, by rw [upd_same, List.take_zero, List.map_append] <;> rfl⟩ (fun j σ H' _ ⟨_, _, _, _, _, s3, _⟩ => s3.seq hcS) ?_ ?_
      · rintro j y σ H3 hy ⟨x4, x5, x6, x7, rfl, s3, hq3⟩
        obtain ⟨c, hc, hdc⟩ := dp_at dpc hy
        obtain ⟨ac, rfl, hac⟩ := dCol_inv hdc
        have hj : j < t.2.length := (List.getElem?_eq_some_iff.mp hc).1
        have co := tok.cols c (List.mem_of_getElem? hc)
        obtain ⟨l1, l2, l3, l4⟩ := co.lens hnm
        have e1 : ((" " : Str)).length = 1 := by decide +kernel
        have f6 := tok.few
        have fin : ∀ H4 x6' x7', Same H H4 → H4 q = some (.lst ((linesOf (ts.take i) ++ (("table " : Str) ++ t.1) :: (t.2.take j).map lnC).map V.str)) → ∃ (x4 x5 x6 x7 : Option V), ([some (V.ref l), some (.ref q), some (.str t.1), some (.ref cl), some (.str c.name), some (.str c.kind), x6', x7'] : L2.St) = [some (.ref l), some (.ref q), some (.str t.1), some (.ref cl), x4, x5, x6, x7] ∧
            Same H (upd H4 q (.lst ((linesOf (ts.take i) ++ (("table " : Str) ++ t.1) :: (t.2.take j).map lnC).map V.str ++ [V.str (lnC c)]))) ∧ upd H4 q (.lst ((linesOf (ts.take i) ++ (("table " : Str) ++ t.1) :: (t.2.take j).map lnC).map V.str ++ [V.str (lnC c)])) q = some (.lst ((linesOf (ts.take i) ++ (("table " : Str) ++ t.1) :: (t.2.take (j + 1)).map lnC).map V.str)) := fun H4 x6' x7' s4 h4 => by
          refine ⟨_, _, _, _, rfl, fun b o e => by rw [upd_ne (ne_of_none e hq)]; exact s4 _ _ e, ?_⟩
          rw [upd_same, List.take_add_one, hc]
          simp
        have hsz : ((linesOf (ts.take i) ++ (("table " : Str) ++ t.1) :: (t.2.take j).map lnC).map V.str).length < sizeLine := by
          rw [List.length_map, List.length_append, List.length_cons, List.length_map, List.length_take, sizeLine_eq]
          omega
        refine ⟨ac, _, rfl, Same.sqT s3 hac, rfl, _, _, rfl, _, _, rfl, _, _, rfl, _, _, rfl, rfl, ?_⟩
        refine ⟨_, rfl, .inl ⟨rfl, _, SqL.of hq3⟩, _, rfl, _, _, rfl, rfl, by rw [e1, sizeLine_eq]; omega, _, rfl, _, _, rfl, rfl, by rw [len_app, e1, sizeLine_eq]; omega, _, rfl, rfl, _, rfl, ?_⟩
        rcases co.k with ⟨ek, tg, ru, e2, e3, h4, h5⟩ | ⟨ek, e2, e3⟩
        · rw [e2] at l3
          rw [e3] at l4
          have l3 : tg.length ≤ 8 := l3
          have l4 : ru.length ≤ 8 := l4
          refine ite2 (fun _ => ?_) (fun z => absurd (decide_eq_true (by rw [ek])) z)
          rw [e2, e3]
          refine ⟨_, rfl, _, _, rfl, rfl, by rw [e1, sizeLine_eq]; omega, _, _, rfl, rfl, by rw [len_app, e1, sizeLine_eq]; omega, _, rfl, _, _, rfl, rfl, by rw [len_app, len_app, e1, sizeLine_eq]; omega, _, _, rfl, rfl, by rw [len_app, len_app, len_app, len_app, len_app, e1, sizeLine_eq]; omega, ?_⟩
          refine ⟨q, _, _, rfl, rfl, hq3, hsz, ?_⟩
          have e : lnC c = c.kind ++ (" " : Str) ++ c.name ++ ((" " : Str) ++ tg ++ (" " : Str) ++ ru) := by
            unfold lnC
            rw [if_pos ek, e2, e3]
            rfl
          have q2 := fin H3 (some (oV (some tg))) (some (oV (some ru))) s3 hq3
          rw [e] at q2
          exact q2
        · refine ite2 (fun z => ?_) (fun _ => ?_)
          · have z : V.str c.kind = V.str ("link" : Str) := of_decide_eq_true z
            injection z with z
            rcases ek with e | e <;> rw [e] at z <;> exact absurd z (by decide)
          refine ⟨_, _, rfl, rfl, ?_, ?_⟩
          · have e0 : (("" : Str)).length = 0 := by decide +kernel
            rw [len_app, len_app, e1, e0, sizeLine_eq]
            omega
          refine ⟨q, _, _, rfl, rfl, hq3, hsz, ?_⟩
          have e : lnC c = c.kind ++ (" " : Str) ++ c.name ++ ("" : Str) := by
            unfold lnC
            rw [if_neg]
            rcases ek with e | e <;> rw [e] <;> decide
          have q2 := fin H3 (some (oV c.tgt)) (some (oV c.rule)) s3 hq3
          rw [e] at q2
          exact q2
      · rintro σ H3 ⟨x4, x5, x6, x7, rfl, s3, hq3⟩
        rw [hyl, List.take_length] at hq3
        refine ⟨_, _, _, _, _, _, rfl, s3, ?_⟩
        rw [lines_take ht]
        exact hq3
    · rintro σ H1 ⟨x2, x3, x4, x5, x6, x7, rfl, s1, hq1⟩
      rw [hxl, List.take_length] at hq1
      exact ⟨_, rfl, kk _ _ s1 hq hq1⟩
end
end Ow

/-! law k03: _law_is_word, _law_is_column, _law_odd_word -/
namespace Ow
open PySem PySem.Spec L2 TL
def spLc (K : PySem.W.Frag) : Sp := fun vs H Q _ => ∃ (lw lk lt : Addr) (ws ns tk : List Str), vs = [.ref lw, .ref lk, .ref lt] ∧ SqL K H lw (ws.map V.str) ∧ SqL K H lk (ns.map V.str) ∧ SqL K H lt (tk.map V.str) ∧ 0 < ws.length ∧ (∀ z ∈ ws, z.length ≤ 100000) ∧ ∀ H', Same H H' → Q (.bl (lawCol ws ns tk)) H'
def spOdd (K : PySem.W.Frag) : Sp := fun vs H Q _ => ∃ (p l : Addr) (n Mx : Nat) (ws : List Str), vs = [.ref p, .ref l] ∧ PoolAt H p n ∧ n < 2 ^ 40 ∧ SqL K (less p H) l (ws.map V.str) ∧ ws.length ≤ 900 ∧ (∀ z ∈ ws, LnS Mx z) ∧ ∀ H' y, Keep p H H' → PoolAt H' p (n + 3) → LnS (Mx + 24) y → Q (.str y) H'
section
variable {P : Program} {w : World} {K : PySem.W.Frag} {mg : Str → Option Value} {base : Heap}
theorem sc_law_is_word : FnScope [("_law_text" : Str), ("_law_sign" : Str)] [("_law_text" : Str)] (defScope s_law_is_word) := ⟨rfl, rfl, rfl, by decide +kernel, rfl, by decide +kernel, by decide +kernel⟩
theorem ok_lw (D : TopD K mg "_law_is_word" s_law_is_word) (T : Blt mg) (M : ScC K mg) : FnAt P w K mg base "_law_is_word" [("_law_text" : Str)] 1 spIsW := by
  refine fn_at D sc_law_is_word (fun _ _ _ _ _ _ us hl => match us, hl with | [_], _ => rfl) (fun vs H Q E h => ?_) (fun f cdv A outer s H vs Q E hr h => ?_)
  · obtain ⟨z, rfl, _⟩ := h
    rfl
  · obtain ⟨z, rfl, hz, k⟩ := h
    refine ⟨_, (pss_one (ps_ret (pe_and (pe_chain op_le op_le pe_int (pe_callB call_len_str (by rfl) T.len PySem.boot_len (pa_cons (pv 0) pa_nil)) pe_int) (pe_one (pe_callB (cr_all rfl) (by rfl) M.all (by decide +kernel) (pa_cons (pe_lc (own := [(("_law_sign" : Str), 1)]) (by rfl) sc_law_is_word.nd (pi_str (pv 0)) (blkOk_by (own := [(("_law_sign" : Str), 1)]) (N := [("_law_text" : Str), ("_law_sign" : Str)]) (sc := defScope s_law_is_word) (by decide +kernel)) (fun _ _ _ _ _ => pg_name (i := 1) sc_law_is_word.nd rfl (Or.inl rfl)) (fun _ _ _ _ _ => pts_nil) (fun _ _ _ _ _ => (pe_cmpR op_in_sign (pv 1) pe_str rfl))) pa_nil)))))), ?_⟩
    have hz2 : z.length ≤ sizeLine := by rw [sizeLine_eq]; omega
    refine ⟨_, rfl, _, rfl, hz2, _, _, rfl, rfl, _, rfl, ?_⟩
    refine ite2 (fun h1 => ?_) (fun h1 => ?_)
    · have h1 : (1 : Int) ≤ (z.length : Int) := of_decide_eq_true h1
      refine ⟨_, _, rfl, rfl, _, rfl, ?_⟩
      refine ite2 (fun h2 => ?_) (fun h2 => ?_)
      · have h2 : (z.length : Int) ≤ 8 := of_decide_eq_true h2
        refine ⟨_, rfl, z, rfl, fun l hl => ?_⟩
        refine lc_it walk_str (fun i H' => ∃ bs : List Bool, H' l = some (.lst (bs.map V.bl)) ∧ bs = (z.cps.toList.take i).map (fun c => decide (c ∈ LET.cps.toList)) ∧ Same H H')
          ⟨[], upd_same, rfl, same_upd hl⟩ (fun _ _ _ _ => trivial) ?_ ?_
        · rintro i x H1 H2 hi ⟨bs, hl1, hb, s1⟩ ⟨rfl, c, hc, rfl⟩
          have hi2 : i < z.length := hi
          refine ⟨rfl, ?_⟩
          refine yes_ ?_
          refine ⟨_, rfl, c, LET, rfl, rfl, bs.map V.bl, hl1, ?_, bs ++ [decide (c ∈ LET.cps.toList)], ?_, ?_, ?_⟩
          · have e : bs.length ≤ i := by rw [hb, List.length_map, List.length_take]; omega
            rw [List.length_map, sizeLine_eq]
            omega
          · rw [upd_same, List.map_append]
            rfl
          · have e : z.cps.toList[i]? = some c := by rw [Array.getElem?_toList]; exact hc
            rw [List.take_add_one, e, List.map_append, hb]
            rfl
          · exact fun b o q => by rw [upd_ne (ne_of_none q hl)]; exact s1 b o q
        · rintro H1 ⟨bs, hl1, hb, s1⟩
          refine ⟨l, bs, rfl, SqL.of hl1, ?_⟩
          have e : bs.all id = isW z := by
            unfold isW
            have e1 : z.cps.toList.take z.cps.size = z.cps.toList := List.take_of_length_le (by simp)
            rw [hb, e1, List.all_map, decide_eq_true (show 1 ≤ z.length by omega), decide_eq_true (show z.length ≤ 8 by omega)]
            rfl
          rw [e]
          exact k _ s1
      · have h2 : ¬ (z.length : Int) ≤ 8 := fun q => h2 (decide_eq_true q)
        have e : isW z = false := by
          unfold isW
          rw [decide_eq_false (show ¬ z.length ≤ 8 by omega)]
          simp
        have q := k H (Same.refl H)
        rw [e] at q
        exact q
    · have h1 : ¬ (1 : Int) ≤ (z.length : Int) := fun q => h1 (decide_eq_true q)
      refine ⟨_, rfl, ?_⟩
      refine iteF ?_
      have e : isW z = false := by
        unfold isW
        rw [decide_eq_false (show ¬ 1 ≤ z.length by omega)]
        rfl
      have q := k H (Same.refl H)
      rw [e] at q
      exact q
theorem sc_law_is_column : FnScope [("_law_words" : Str), ("_law_known" : Str), ("_law_taken" : Str)] [("_law_words" : Str), ("_law_known" : Str), ("_law_taken" : Str)] (defScope s_law_is_column) := ⟨rfl, rfl, rfl, by decide +kernel, rfl, by decide +kernel, by decide +kernel⟩
theorem ok_lc (D : TopD K mg "_law_is_column" s_law_is_column) (T : Blt mg) (F_lw : FnAt P w K mg base "_law_is_word" [("_law_text" : Str)] 1 spIsW) : FnAt P w K mg base "_law_is_column" [("_law_words" : Str), ("_law_known" : Str), ("_law_taken" : Str)] 2 (spLc K) := by
  refine fn_at D sc_law_is_column (fun _ _ _ _ _ _ us hl => match us, hl with | [_, _, _], _ => rfl) (fun vs H Q E h => ?_) (fun f cdv A outer s H vs Q E hr h => ?_)
  · obtain ⟨lw, lk, lt, ws, ns, tk, rfl, _⟩ := h
    rfl
  · obtain ⟨lw, lk, lt, ws, ns, tk, rfl, hw, hk, ht, pos, short, k⟩ := h
    refine ⟨_, (pss_cons (ps_if (PW.pt (pw_or (pt_cmpR op_lt (pe_callB call_len_seq (by rfl) T.len PySem.boot_len (pa_cons (pv 0) pa_nil)) pe_int (nomark _)) (pw_or (pt_not (pt_val (pe_fn F_lw (hr.mono (by decide)) (by rfl) (pa_cons (pe_ix ix_list (pv 0) pe_int (fun _ _ => rfl)) pa_nil)))) (pw_or (pt_cmpR op_in_seq (pe_ix ix_list (pv 0) pe_int (fun _ _ => rfl)) (pe_lst (pa_cons pe_str (pa_cons pe_str (pa_cons pe_str pa_nil)))) rfl) (pw_or1 (pt_cmpR op_in_seq (pe_ix ix_list (pv 0) pe_int (fun _ _ => rfl)) (pv 2) rfl))))))
      (pss_one (ps_ret pe_bl))
      pss_nil)
      (pss_cons (ps_if (pt_cmpR op_eq (pe_callB call_len_seq (by rfl) T.len PySem.boot_len (pa_cons (pv 2) pa_nil)) pe_int (nomark _))
      (pss_one (ps_ret pe_bl))
      pss_nil)
      (pss_cons (ps_if (pt_cmpR op_eq (pe_ix ix_list (pv 0) pe_int (fun _ _ => rfl)) pe_str (nomark _))
      (pss_one (ps_ret (pe_and (pe_cmpR op_eq (pe_callB call_len_seq (by rfl) T.len PySem.boot_len (pa_cons (pv 0) pa_nil)) pe_int (nomark _)) (pe_and (pe_cmpR op_in_seq (pe_ix ix_list (pv 0) pe_int (fun _ _ => rfl)) (pv 1) rfl) (pe_one (pe_cmpR op_in_seq (pe_ix ix_list (pv 0) pe_int (fun _ _ => rfl)) (pe_lst (pa_cons pe_str (pa_cons pe_str (pa_cons pe_str pa_nil)))) rfl))))))
      pss_nil)
      (pss_one (ps_ret (pe_and (pe_cmpR op_eq (pe_callB call_len_seq (by rfl) T.len PySem.boot_len (pa_cons (pv 0) pa_nil)) pe_int (nomark _)) (pe_one (pe_cmpR op_in_seq (pe_ix ix_list (pv 0) pe_int (fun _ _ => rfl)) (pe_lst (pa_cons pe_str (pa_cons pe_str pa_nil))) rfl)))))))), ?_⟩
    have fin : ∀ {b : Bool} {H' : Hp}, Same H H' → lawCol ws ns tk = b → Q (.bl b) H' := fun s' e => e ▸ k _ s'
    have bad : ∀ {H' : Hp}, Same H H' → colOf ws ns = none → Q (.bl false) H' := fun s' e => fin s' (by unfold lawCol; rw [e])
    refine ⟨_, rfl, lw, _, rfl, .inl hw, _, _, rfl, rfl, _, rfl, ?_⟩
    by_cases c1 : ws.length < 2
    case pos => exact iteDT (by rw [List.length_map]; omega) (iteT (bad (Same.refl _) (by unfold colOf; rw [if_pos (.inl c1)])))
    refine iteDF (by rw [List.length_map]; omega) ?_
    have w1 : 1 < ws.length := by omega
    have l1 := short _ (wd_mem w1)
    refine ⟨_, rfl, lw, _, _, _, rfl, rfl, hw, wd_at w1, _, rfl, l1, fun H1 s1 => ?_⟩
    cases c2 : isW (wd ws 1) with
    | false => exact ⟨false, rfl, iteT (iteT (bad s1 (by unfold colOf; rw [if_pos (.inr (.inl c2))])))⟩
    | true =>
    refine ⟨true, rfl, iteF ?_⟩
    refine ⟨_, rfl, lw, _, _, _, rfl, rfl, s1.seq hw, wd_at w1, by show 3 ≤ sizeLine; decide, fun q hq => ?_⟩
    generalize e2 : upd H1 q _ = H2
    have s2 := al_s e2 hq
    have h2 := al_v e2
    clear e2
    have s02 := s1.trans s2
    have eB : inV (V.str (wd ws 1)) [V.str ("key" : Str), V.str ("self" : Str), V.str ("table" : Str)] = decide (wd ws 1 ∈ BAR) := inV_str (l := BAR)
    refine ⟨q, _, rfl, .inl (SqL.of h2), rfl, rfl, _, rfl, ?_⟩
    show if (inV (V.str (wd ws 1)) [V.str ("key" : Str), V.str ("self" : Str), V.str ("table" : Str)]) = true then _ else _
    rw [eB]
    by_cases c3 : wd ws 1 ∈ BAR
    case pos => exact iteDT c3 (iteT (bad s02 (by unfold colOf; rw [if_pos (.inr (.inr c3))])))
    refine iteDF c3 ?_
    have c123 : ¬ (ws.length < 2 ∨ isW (wd ws 1) = false ∨ wd ws 1 ∈ BAR) := by
      rintro (z | z | z)
      · exact c1 z
      · rw [c2] at z; cases z
      · exact c3 z
    refine ⟨_, rfl, lw, _, _, _, rfl, rfl, s02.seq hw, wd_at w1, _, rfl, lt, _, rfl, .inl (s02.seq ht), rfl, flat_strs tk, _, rfl, ?_⟩
    show if (inV (V.str (wd ws 1)) (tk.map V.str)) = true then _ else _
    rw [inV_str]
    by_cases c4 : wd ws 1 ∈ tk
    case pos =>
      refine iteDT c4 (fin s02 ?_)
      unfold lawCol
      cases e : colOf ws ns with
      | none => rfl
      | some c => simp only [colOf_name e, decide_eq_true c4, Bool.not_true, Bool.false_and]
    refine iteDF c4 ?_
    refine ⟨_, rfl, lt, _, rfl, .inl (s02.seq ht), rfl, _, rfl, ?_⟩
    by_cases c5 : tk.length = 6
    case pos =>
      refine iteDT (by rw [List.length_map, c5]; rfl) (fin s02 ?_)
      unfold lawCol
      cases e : colOf ws ns with
      | none => rfl
      | some c => simp only [decide_eq_true c5, Bool.not_true, Bool.and_false]
    refine iteDF (fun z => c5 (by rw [List.length_map] at z; injection z with z; omega)) ?_
    have good : lawCol ws ns tk = (colOf ws ns).isSome := by
      unfold lawCol
      cases e : colOf ws ns with
      | none => rfl
      | some c => simp [colOf_name e, c4, c5]
    have e0 : colOf ws ns = if ws.length = 2 ∧ (wd ws 0 = ("value" : Str) ∨ wd ws 0 = ("flag" : Str)) then some ⟨wd ws 1, wd ws 0, none, none⟩
        else if ws.length = 4 ∧ wd ws 0 = ("link" : Str) ∧ wd ws 2 ∈ ns ∧ wd ws 3 ∈ RUL then some ⟨wd ws 1, ("link" : Str), some (wd ws 2), some (wd ws 3)⟩ else none := by
      unfold colOf
      rw [if_neg c123]
    refine ⟨_, rfl, lw, _, _, _, rfl, rfl, s02.seq hw, wd_at pos, rfl, _, rfl, ?_⟩
    by_cases c6 : wd ws 0 = ("link" : Str)
    · refine iteDT (by rw [c6]) ?_
      have n1 : ¬ (ws.length = 2 ∧ (wd ws 0 = ("value" : Str) ∨ wd ws 0 = ("flag" : Str))) := by
        rw [c6]
        rintro ⟨_, z | z⟩ <;> exact absurd z (by decide)
      rw [if_neg n1] at e0
      refine ⟨_, rfl, lw, _, rfl, .inl (s02.seq hw), rfl, _, rfl, ?_⟩
      by_cases c7 : ws.length = 4
      case neg =>
        refine iteDF (fun z => c7 (by rw [List.length_map] at z; injection z with z; omega)) (fin s02 ?_)
        rw [good, e0, if_neg (fun z => c7 z.1)]
        rfl
      refine iteDT (by rw [List.length_map, c7]; rfl) ?_
      refine ⟨_, rfl, lw, _, _, _, rfl, rfl, s02.seq hw, wd_at (i := 2) (by omega), _, rfl, lk, _, rfl, .inl (s02.seq hk), rfl, flat_strs ns, _, rfl, ?_⟩
      show if (inV (V.str (wd ws 2)) (ns.map V.str)) = true then _ else _
      rw [inV_str]
      by_cases c8 : wd ws 2 ∈ ns
      case neg =>
        refine iteDF c8 (fin s02 ?_)
        rw [good, e0, if_neg (fun z => c8 z.2.2.1)]
        rfl
      refine iteDT c8 ?_
      refine ⟨_, rfl, lw, _, _, _, rfl, rfl, s02.seq hw, wd_at (i := 3) (by omega), by show 3 ≤ sizeLine; decide, fun q2 hq2 => ?_⟩
      generalize e3 : upd H2 q2 _ = H3
      have s3 := al_s e3 hq2
      have h3 := al_v e3
      clear e3
      have eR : inV (V.str (wd ws 3)) [V.str ("refuse" : Str), V.str ("clear" : Str), V.str ("cascade" : Str)] = decide (wd ws 3 ∈ RUL) := inV_str (l := RUL)
      refine ⟨q2, _, rfl, .inl (SqL.of h3), rfl, rfl, ?_⟩
      refine fin (s02.trans s3) ?_
      show _ = inV (V.str (wd ws 3)) [V.str ("refuse" : Str), V.str ("clear" : Str), V.str ("cascade" : Str)]
      rw [eR, good, e0]
      by_cases c9 : wd ws 3 ∈ RUL
      · rw [if_pos ⟨c7, c6, c8, c9⟩, decide_eq_true c9]
        rfl
      · rw [if_neg (fun z => c9 z.2.2.2), decide_eq_false c9]
        rfl
    · refine iteDF (fun z => c6 (by injection z)) ?_
      refine ⟨_, rfl, lw, _, rfl, .inl (s02.seq hw), rfl, _, rfl, ?_⟩
      by_cases c7 : ws.length = 2
      case neg =>
        refine iteDF (fun z => c7 (by rw [List.length_map] at z; injection z with z; omega)) (fin s02 ?_)
        rw [good, e0, if_neg (fun z => c7 z.1), if_neg (fun z => c6 z.2.1)]
        rfl
      refine iteDT (by rw [List.length_map, c7]; rfl) ?_
      refine ⟨_, rfl, lw, _, _, _, rfl, rfl, s02.seq hw, wd_at pos, by show 2 ≤ sizeLine; decide, fun q2 hq2 => ?_⟩
      generalize e3 : upd H2 q2 _ = H3
      have s3 := al_s e3 hq2
      have h3 := al_v e3
      clear e3
      have eR : inV (V.str (wd ws 0)) [V.str ("value" : Str), V.str ("flag" : Str)] = decide (wd ws 0 ∈ [("value" : Str), ("flag" : Str)]) := inV_str (l := [("value" : Str), ("flag" : Str)])
      refine ⟨q2, _, rfl, .inl (SqL.of h3), rfl, rfl, ?_⟩
      refine fin (s02.trans s3) ?_
      show _ = inV (V.str (wd ws 0)) [V.str ("value" : Str), V.str ("flag" : Str)]
      rw [eR, good, e0]
      by_cases c9 : wd ws 0 = ("value" : Str) ∨ wd ws 0 = ("flag" : Str)
      · rw [if_pos ⟨c7, c9⟩, decide_eq_true (by simpa using c9)]
        rfl
      · rw [if_neg (fun z => c9 z.2), if_neg (fun z => c6 z.2.1), decide_eq_false (by simpa using c9)]
        rfl
theorem sc_law_odd_word : FnScope [("_law_pool_here" : Str), ("_law_words" : Str), ("_law_drawn" : Str), ("_law_some" : Str)] [("_law_pool_here" : Str), ("_law_words" : Str)] (defScope s_law_odd_word) := ⟨rfl, rfl, rfl, by decide +kernel, rfl, by decide +kernel, by decide +kernel⟩
theorem ok_odd (D : TopD K mg "_law_odd_word" s_law_odd_word) (T : Blt mg) (F_of : FnAt P w K mg base "_law_of" [("_law_pool_here" : Str), ("_law_some" : Str)] 2 (spOf K)) (F_word : FnAt P w K mg base "_law_word" [("_law_pool_here" : Str), ("_law_taken" : Str)] 2 (spWord K)) : FnAt P w K mg base "_law_odd_word" [("_law_pool_here" : Str), ("_law_words" : Str)] 3 (spOdd K) := by
  refine fn_at D sc_law_odd_word (fun _ _ _ _ _ _ us hl => match us, hl with | [_, _], _ => rfl) (fun vs H Q E h => ?_) (fun f cdv A outer s H vs Q E hr h => ?_)
  · obtain ⟨p, l, n, Mx, ws, rfl, _⟩ := h
    rfl
  · obtain ⟨p, l, n, Mx, ws, rfl, hp, hn, hS, hl, hws, kk⟩ := h
    have b50 : (2 : Nat) ^ 40 + 100 < 2 ^ 50 := by decide
    have b60 : (2 : Nat) ^ 50 < 2 ^ 60 := by decide
    refine ⟨_, (pss_cons (ps_set (i := 2) sc_law_odd_word.nd rfl (Or.inl rfl) (pe_fn F_word (hr.mono (by decide)) (by rfl) (pa_cons (pv 0) (pa_cons (pe_lst pa_nil) pa_nil))))
      (pss_cons (ps_set (i := 3) sc_law_odd_word.nd rfl (Or.inl rfl) (pe_lst (pa_cons pe_str (pa_cons (pv 2) (pa_cons (pv 2) (pa_cons (pe_upper (pv 2)) (pa_cons (pe_op op_add_str (pv 2) pe_str) (pa_cons (pe_op op_add_str (pv 2) pe_str) (pa_cons pe_str (pa_cons pe_str (pa_cons pe_str (pa_cons pe_str (pa_cons pe_str pa_nil)))))))))))))
      (pss_one (ps_ret (pe_fn F_of (hr.mono (by decide)) (by rfl) (pa_cons (pv 0) (pa_cons (pe_op op_catS (pe_op op_catS (pv 3) (pe_lst (pa_cons pe_str (pa_cons pe_str (pa_cons pe_str (pa_cons pe_str (pa_cons pe_str (pa_cons pe_str pa_nil)))))))) (pv 1)) pa_nil))))))), ?_⟩
    refine ⟨_, rfl, by show 0 ≤ sizeLine; decide, fun e0 he0 => ?_⟩
    generalize e1 : upd H e0 _ = H1
    have s1 := al_s e1 he0
    have h1 := al_v e1
    clear e1
    refine ⟨p, e0, n, [], rfl, hp.same s1, by omega, SqL.of (by rw [less_ne (hp.ne he0)]; exact h1), by decide, fun H2 w0 k2 p2 w1 _ w3 => ?_⟩
    have l8 := (isW_len w1).2
    have l1 : (("1" : Str)).length = 1 := by decide +kernel
    have l9 : (("abcdefgh" : Str)).length = 8 := by decide +kernel
    refine ⟨_, rfl, _, rfl, _, rfl, ⟨_, rfl⟩, w0, rfl, rfl, by omega, ?_⟩
    refine ⟨_, rfl, _, _, rfl, rfl, by rw [l1, sizeLine_eq]; omega, ?_⟩
    refine ⟨_, rfl, _, _, rfl, rfl, by rw [l9, sizeLine_eq]; omega, ?_⟩
    refine ⟨by show 11 ≤ sizeLine; decide, fun q hq => ?_⟩
    generalize e3 : upd H2 q _ = H3
    have s3 := al_s e3 hq
    have h3 := al_v e3
    clear e3
    refine ⟨_, rfl, _, rfl, by show 6 ≤ sizeLine; decide, fun q2 hq2 => ?_⟩
    generalize e4 : upd H3 q2 _ = H4
    have s4 := al_s e4 hq2
    have h4 := al_v e4
    clear e4
    refine ⟨q, q2, _, _, rfl, rfl, SqL.of (s4 _ _ h3), SqL.of h4, by show 11 + 6 ≤ sizeLine; decide, fun q3 hq3 => ?_⟩
    generalize e5 : upd H4 q3 _ = H5
    have s5 := al_s e5 hq3
    have h5 := al_v e5
    clear e5
    have k25 : Keep p H2 H5 := Keep.of (s3.trans (s4.trans s5))
    have k05 : Keep p H H5 := (Keep.of s1).trans (k2.trans k25)
    have hS5 : SqL K H5 l (ws.map V.str) := (less_same p H5).seq (Same.seq (less_keep k05) hS)
    refine ⟨_, rfl, q3, l, _, _, rfl, rfl, SqL.of h5, hS5, ?_, fun q4 hq4 => ?_⟩
    · rw [List.length_append, List.length_map, sizeLine_eq]
      simp only [List.length_cons, List.length_nil]
      omega
    generalize e6 : upd H5 q4 _ = H6
    have s6 := al_s e6 hq4
    have h6 := al_v e6
    clear e6
    have p5 := p2.same (s3.trans (s4.trans s5))
    refine ⟨p, q4, n + 2, _, rfl, p5.same s6, by omega, SqL.of h6, p5.ne hq4, by simp, by simp; omega, fun H7 v k7 p7 hv => ?_⟩
    have kA : Keep p H H7 := k05.trans ((Keep.of s6).trans k7)
    have lw := (word_ln w1)
    have cst : ∀ {z : Str}, z.length ≤ 24 → 10 ∉ tl z → Q (.str z) H7 := fun h1 h2 => kk _ _ kA p7 ⟨by omega, h2⟩
    rcases List.mem_append.mp hv with hv | hv
    · rcases List.mem_append.mp hv with hv | hv
      · simp only [List.mem_cons, List.not_mem_nil, or_false] at hv
        rcases hv with rfl | rfl | rfl | rfl | rfl | rfl | rfl | rfl | rfl | rfl | rfl
        · exact cst (by decide +kernel) (by decide +kernel)
        · exact kk _ _ kA p7 (lw.mono (by omega))
        · exact kk _ _ kA p7 (lw.mono (by omega))
        · exact kk _ _ kA p7 ((upper_ln w1).mono (by omega))
        · exact kk _ _ kA p7 ((app_ln (N := 1) lw ⟨by omega, by decide +kernel⟩).mono (by omega))
        · exact kk _ _ kA p7 ((app_ln (N := 8) lw ⟨by omega, by decide +kernel⟩).mono (by omega))
        · exact cst (by decide +kernel) (by decide +kernel)
        · exact cst (by decide +kernel) (by decide +kernel)
        · exact cst (by decide +kernel) (by decide +kernel)
        · exact cst (by decide +kernel) (by decide +kernel)
        · exact cst (by decide +kernel) (by decide +kernel)
      · simp only [List.mem_cons, List.not_mem_nil, or_false] at hv
        rcases hv with rfl | rfl | rfl | rfl | rfl | rfl
        · exact cst (by decide +kernel) (by decide +kernel)
        · exact cst (by decide +kernel) (by decide +kernel)
        · exact cst (by decide +kernel) (by decide +kernel)
        · exact cst (by decide +kernel) (by decide +kernel)
        · exact cst (by decide +kernel) (by decide +kernel)
        · exact cst (by decide +kernel) (by decide +kernel)
    · obtain ⟨z, hz, rfl⟩ := List.mem_map.mp hv
      exact kk _ _ kA p7 ((hws z hz).mono (by omega))
end
end Ow

/-! law k03: _law_line_changed, _law_more, _law_changed -/
namespace Ow
open PySem PySem.Spec L2 TL
def spLch : Sp := fun vs H Q _ => ∃ (p : Addr) (n Mx : Nat) (line : Str), vs = [.ref p, .str line] ∧ PoolAt H p n ∧ n < 2 ^ 39 ∧ LnS Mx line ∧ Mx ≤ 800 ∧ ∀ H' y, Keep p H H' → PoolAt H' p (n + 6) → LnS (2 * Mx + 30) y → Q (.str y) H'
theorem mem_tk {l : List Str} {i : Nat} {P : Str → Prop} (h : ∀ z ∈ l, P z) : ∀ z ∈ l.take i, P z := fun z hz => h z (List.mem_of_mem_take hz)
theorem mem_dr {l : List Str} {i : Nat} {P : Str → Prop} (h : ∀ z ∈ l, P z) : ∀ z ∈ l.drop i, P z := fun z hz => h z (List.mem_of_mem_drop hz)
theorem mem_ap {l m : List Str} {P : Str → Prop} (h : ∀ z ∈ l, P z) (h' : ∀ z ∈ m, P z) : ∀ z ∈ l ++ m, P z := fun z hz => (List.mem_append.mp hz).elim (h z) (h' z)
theorem mem_on {y : Str} {P : Str → Prop} (h : P y) : ∀ z ∈ [y], P z := fun z hz => by rw [List.mem_singleton.mp hz]; exact h
theorem wt_one (z : Str) : wt [z] = z.length + 1 := by rw [wt_cons, wt_nil]
section
variable {P : Program} {w : World} {K : PySem.W.Frag} {mg : Str → Option Value} {base : Heap}
theorem sc_law_line_changed : FnScope [("_law_pool_here" : Str), ("_law_line" : Str), ("_law_words" : Str), ("_law_choice" : Str), ("_law_at" : Str)] [("_law_pool_here" : Str), ("_law_line" : Str)] (defScope s_law_line_changed) := ⟨rfl, rfl, rfl, by decide +kernel, rfl, by decide +kernel, by decide +kernel⟩
theorem ok_lch (D : TopD K mg "_law_line_changed" s_law_line_changed) (T : Blt mg) (F_draw : FnAt P w K mg base "_law_draw" [("_law_pool_here" : Str), ("_law_many" : Str)] 1 spDraw) (F_odd : FnAt P w K mg base "_law_odd_word" [("_law_pool_here" : Str), ("_law_words" : Str)] 3 (spOdd K)) : FnAt P w K mg base "_law_line_changed" [("_law_pool_here" : Str), ("_law_line" : Str)] 4 spLch := by
  refine fn_at D sc_law_line_changed (fun _ _ _ _ _ _ us hl => match us, hl with | [_, _], _ => rfl) (fun vs H Q E h => ?_) (fun f cdv A outer s H vs Q E hr h => ?_)
  · obtain ⟨p, n, Mx, line, rfl, _⟩ := h
    rfl
  · obtain ⟨p, n, Mx, line, rfl, hp, hn, hln, hM, kk⟩ := h
    have b40 : (2 : Nat) ^ 39 + 100 < 2 ^ 40 := by decide
    have b60 : (2 : Nat) ^ 40 < 2 ^ 60 := by decide
    refine ⟨_, (pss_cons (ps_par (i := 2) (j := 3) (by rfl) sc_law_line_changed.nd rfl rfl (by decide) rfl rfl (pa_cons (pe_split (pv 1) pe_str) (pa_cons (pe_fn F_draw (hr.mono (by decide)) (by rfl) (pa_cons (pv 0) (pa_cons pe_int pa_nil))) pa_nil)) (by rfl))
      (pss_cons (ps_set (i := 4) sc_law_line_changed.nd rfl (Or.inl rfl) (pe_fn F_draw (hr.mono (by decide)) (by rfl) (pa_cons (pv 0) (pa_cons (pe_callB call_len_seq (by rfl) T.len PySem.boot_len (pa_cons (pv 2) pa_nil)) pa_nil))))
      (pss_cons (ps_if (pt_cmpR op_eq (pv 3) pe_int (nomark _))
      (pss_one (ps_ret (pe_join pe_str (pe_op op_catS (pe_op op_catS (pe_slice sl_list (pv 2) po_none (po_some (pv 4))) (pe_lst (pa_cons pe_str pa_nil))) (pe_slice sl_list (pv 2) (po_some (pv 4)) po_none)))))
      pss_nil)
      (pss_cons (ps_if (pt_cmpR op_eq (pv 3) pe_int (nomark _))
      (pss_one (ps_ret (pe_op op_add_str (pv 1) pe_str)))
      pss_nil)
      (pss_cons (ps_if (pt_cmpR op_eq (pv 3) pe_int (nomark _))
      (pss_one (ps_ret (pe_join pe_str (pe_op op_catS (pe_slice sl_list (pv 2) po_none (po_some (pv 4))) (pe_slice sl_list (pv 2) (po_some (pe_op op_add (pv 4) pe_int)) po_none)))))
      pss_nil)
      (pss_cons (ps_if (pt_cmpR op_eq (pv 3) pe_int (nomark _))
      (pss_one (ps_ret (pe_join pe_str (pe_op op_catS (pe_op op_catS (pe_slice sl_list (pv 2) po_none (po_some (pv 4))) (pe_lst (pa_cons (pe_fn F_odd (hr.mono (by decide)) (by rfl) (pa_cons (pv 0) (pa_cons (pv 2) pa_nil))) pa_nil))) (pe_slice sl_list (pv 2) (po_some (pv 4)) po_none)))))
      pss_nil)
      (pss_one (ps_ret (pe_join pe_str (pe_op op_catS (pe_op op_catS (pe_slice sl_list (pv 2) po_none (po_some (pv 4))) (pe_lst (pa_cons (pe_fn F_odd (hr.mono (by decide)) (by rfl) (pa_cons (pv 0) (pa_cons (pv 2) pa_nil))) pa_nil))) (pe_slice sl_list (pv 2) (po_some (pe_op op_add (pv 4) pe_int)) po_none))))))))))), ?_⟩
    have hl1 := hln.1
    refine ⟨_, rfl, ⟨_, rfl⟩, line, _, rfl, rfl, by decide +kernel, by rw [sizeLine_eq]; omega, fun q hq => ?_⟩
    generalize e1 : upd H q _ = H1
    have s1 := al_s e1 hq
    have v1 : H1 q = some (.lst ((wsOf line).map V.str)) := al_v e1
    clear e1
    have nq := hp.ne hq
    refine ⟨_, rfl, p, n, 7, rfl, hp.same s1, by omega, by decide, by decide, fun H2 d2 k2 p2 d20 d21 => ?_⟩
    refine ⟨_, _, rfl, ?_⟩
    have Sw : SqL K (less p H2) q ((wsOf line).map V.str) := SqL.of (less_at nq (k2 _ _ nq v1))
    have w0 : 0 < (wsOf line).length := List.length_pos_iff.mpr (ws_ne line)
    have wtl := ws_wt line
    have wl : (wsOf line).length ≤ wt (wsOf line) := by unfold wt; omega
    refine ⟨_, rfl, _, rfl, q, _, rfl, .inl ((less_same _ _).seq Sw), p, n + 1, _, rfl, p2, by omega, by rw [List.length_map]; omega, ?_, fun H3 d3 k3 p3 d30 d31 => ?_⟩
    · rw [List.length_map]
      have : (2000 : Nat) < 2 ^ 200 := by decide
      omega
    have Sw := Same.seq (less_keep k3) Sw
    have k03 : Keep p H H3 := (Keep.of s1).trans (k2.trans k3)
    obtain ⟨a, rfl⟩ := Int.eq_ofNat_of_zero_le d30
    rw [List.length_map] at d31
    have ha : a < (wsOf line).length := by omega
    have fW : ∀ z ∈ wsOf line, 10 ∉ tl z := fun z hz => (ws_ln hln hz).2
    have cut := wt_cut (wsOf line) a
    have cut1 := wt_drop1 (wsOf line) a
    refine ⟨_, rfl, rfl, _, rfl, ?_⟩
    refine ite2 (fun _ => ?_) (fun _ => ?_)
    · refine ⟨⟨_, rfl⟩, _, rfl, _, rfl, _, rfl, q, _, rfl, ((less_same _ _).seq Sw), fun qa1 hqa1 => ?_⟩
      generalize e4 : upd H3 qa1 _ = H4
      have s4 := al_s e4 hqa1
      have v4 := al_v e4
      clear e4
      rw [cut_to, ← List.map_take] at v4
      have nqa1 : qa1 ≠ p := p3.ne hqa1
      have kx4 : Keep p H3 H4 := Keep.of s4
      have Sw := Same.seq (less_keep kx4) Sw
      have k03 := k03.trans kx4
      have p3 := p3.same s4
      have Sqa1 : SqL K (less p H4) qa1 (((wsOf line).take a).map V.str) := SqL.of (less_at nqa1 v4)
      refine ⟨by show 1 ≤ sizeLine; decide, fun qa2 hqa2 => ?_⟩
      generalize e5 : upd H4 qa2 _ = H5
      have s5 := al_s e5 hqa2
      have v5 := al_v e5
      clear e5
      have nqa2 : qa2 ≠ p := p3.ne hqa2
      have kx5 : Keep p H4 H5 := Keep.of s5
      have Sw := Same.seq (less_keep kx5) Sw
      have Sqa1 := Same.seq (less_keep kx5) Sqa1
      have k03 := k03.trans kx5
      have p3 := p3.same s5
      have Sqa2 : SqL K (less p H5) qa2 (([("" : Str)]).map V.str) := SqL.of (less_at nqa2 v5)
      refine ⟨qa1, qa2, _, _, rfl, rfl, ((less_same _ _).seq Sqa1), ((less_same _ _).seq Sqa2), by (rw [List.length_map, List.length_map, sizeLine_eq]; simp only [List.length_append, List.length_take, List.length_drop, List.length_cons, List.length_nil]; omega), fun qa3 hqa3 => ?_⟩
      generalize e6 : upd H5 qa3 _ = H6
      have s6 := al_s e6 hqa3
      have v6 := al_v e6
      clear e6
      rw [← List.map_append] at v6
      have nqa3 : qa3 ≠ p := p3.ne hqa3
      have kx6 : Keep p H5 H6 := Keep.of s6
      have Sw := Same.seq (less_keep kx6) Sw
      have Sqa1 := Same.seq (less_keep kx6) Sqa1
      have Sqa2 := Same.seq (less_keep kx6) Sqa2
      have k03 := k03.trans kx6
      have p3 := p3.same s6
      have Sqa3 : SqL K (less p H6) qa3 (((wsOf line).take a ++ [("" : Str)]).map V.str) := SqL.of (less_at nqa3 v6)
      refine ⟨_, rfl, _, rfl, _, rfl, q, _, rfl, ((less_same _ _).seq Sw), fun qa4 hqa4 => ?_⟩
      generalize e7 : upd H6 qa4 _ = H7
      have s7 := al_s e7 hqa4
      have v7 := al_v e7
      clear e7
      rw [cut_from, ← List.map_drop] at v7
      have nqa4 : qa4 ≠ p := p3.ne hqa4
      have kx7 : Keep p H6 H7 := Keep.of s7
      have Sw := Same.seq (less_keep kx7) Sw
      have Sqa1 := Same.seq (less_keep kx7) Sqa1
      have Sqa2 := Same.seq (less_keep kx7) Sqa2
      have Sqa3 := Same.seq (less_keep kx7) Sqa3
      have k03 := k03.trans kx7
      have p3 := p3.same s7
      have Sqa4 : SqL K (less p H7) qa4 (((wsOf line).drop a).map V.str) := SqL.of (less_at nqa4 v7)
      refine ⟨qa3, qa4, _, _, rfl, rfl, ((less_same _ _).seq Sqa3), ((less_same _ _).seq Sqa4), by (rw [List.length_map, List.length_map, sizeLine_eq]; simp only [List.length_append, List.length_take, List.length_drop, List.length_cons, List.length_nil]; omega), fun qa5 hqa5 => ?_⟩
      generalize e8 : upd H7 qa5 _ = H8
      have s8 := al_s e8 hqa5
      have v8 := al_v e8
      clear e8
      rw [← List.map_append] at v8
      have nqa5 : qa5 ≠ p := p3.ne hqa5
      have kx8 : Keep p H7 H8 := Keep.of s8
      have Sw := Same.seq (less_keep kx8) Sw
      have Sqa1 := Same.seq (less_keep kx8) Sqa1
      have Sqa2 := Same.seq (less_keep kx8) Sqa2
      have Sqa3 := Same.seq (less_keep kx8) Sqa3
      have Sqa4 := Same.seq (less_keep kx8) Sqa4
      have k03 := k03.trans kx8
      have p3 := p3.same s8
      have Sqa5 : SqL K (less p H8) qa5 ((((wsOf line).take a ++ [("" : Str)]) ++ (wsOf line).drop a).map V.str) := SqL.of (less_at nqa5 v8)
      have fr : ∀ z ∈ ((wsOf line).take a ++ [("" : Str)]) ++ (wsOf line).drop a, 10 ∉ tl z := mem_ap (mem_ap (mem_tk fW) (mem_on (by decide +kernel))) (mem_dr fW)
      have wz : wt (((wsOf line).take a ++ [("" : Str)]) ++ (wsOf line).drop a) ≤ 2 * Mx + 30 := by (have e0 : (("" : Str)).length = 0 := by decide +kernel); rw [wt_app, wt_app, wt_one, e0]; omega
      refine ⟨(" " : Str), qa5, ((wsOf line).take a ++ [("" : Str)]) ++ (wsOf line).drop a, rfl, rfl, .inl ((less_same _ _).seq Sqa5), ?_, kk _ _ k03 (p3.mono (by omega)) (join_ln fr wz)⟩
      have e1 : ((((wsOf line).take a ++ [("" : Str)]) ++ (wsOf line).drop a).map (·.length)).sum + (((wsOf line).take a ++ [("" : Str)]) ++ (wsOf line).drop a).length = wt (((wsOf line).take a ++ [("" : Str)]) ++ (wsOf line).drop a) := rfl
      rw [sp1]
      omega
    refine ⟨_, rfl, rfl, _, rfl, ?_⟩
    refine ite2 (fun _ => ?_) (fun _ => ?_)
    · refine ⟨_, rfl, _, _, rfl, rfl, by rw [sp1, sizeLine_eq]; omega, ?_⟩
      exact kk _ _ k03 (p3.mono (by omega)) ((app_ln (N := 1) hln ⟨by rw [sp1]; omega, sp_free⟩).mono (by omega))
    refine ⟨_, rfl, rfl, _, rfl, ?_⟩
    refine ite2 (fun _ => ?_) (fun _ => ?_)
    · refine ⟨⟨_, rfl⟩, _, rfl, _, rfl, _, rfl, q, _, rfl, ((less_same _ _).seq Sw), fun qa1 hqa1 => ?_⟩
      generalize e4 : upd H3 qa1 _ = H4
      have s4 := al_s e4 hqa1
      have v4 := al_v e4
      clear e4
      rw [cut_to, ← List.map_take] at v4
      have nqa1 : qa1 ≠ p := p3.ne hqa1
      have kx4 : Keep p H3 H4 := Keep.of s4
      have Sw := Same.seq (less_keep kx4) Sw
      have k03 := k03.trans kx4
      have p3 := p3.same s4
      have Sqa1 : SqL K (less p H4) qa1 (((wsOf line).take a).map V.str) := SqL.of (less_at nqa1 v4)
      refine ⟨_, rfl, _, rfl, _, _, rfl, rfl, _, rfl, q, _, rfl, ((less_same _ _).seq Sw), fun qa2 hqa2 => ?_⟩
      generalize e5 : upd H4 qa2 _ = H5
      have s5 := al_s e5 hqa2
      have v5 := al_v e5
      clear e5
      rw [show ((a : Int) + 1) = ((a + 1 : Nat) : Int) from rfl, cut_from, ← List.map_drop] at v5
      have nqa2 : qa2 ≠ p := p3.ne hqa2
      have kx5 : Keep p H4 H5 := Keep.of s5
      have Sw := Same.seq (less_keep kx5) Sw
      have Sqa1 := Same.seq (less_keep kx5) Sqa1
      have k03 := k03.trans kx5
      have p3 := p3.same s5
      have Sqa2 : SqL K (less p H5) qa2 (((wsOf line).drop (a + 1)).map V.str) := SqL.of (less_at nqa2 v5)
      refine ⟨qa1, qa2, _, _, rfl, rfl, ((less_same _ _).seq Sqa1), ((less_same _ _).seq Sqa2), by (rw [List.length_map, List.length_map, sizeLine_eq]; simp only [List.length_append, List.length_take, List.length_drop, List.length_cons, List.length_nil]; omega), fun qa3 hqa3 => ?_⟩
      generalize e6 : upd H5 qa3 _ = H6
      have s6 := al_s e6 hqa3
      have v6 := al_v e6
      clear e6
      rw [← List.map_append] at v6
      have nqa3 : qa3 ≠ p := p3.ne hqa3
      have kx6 : Keep p H5 H6 := Keep.of s6
      have Sw := Same.seq (less_keep kx6) Sw
      have Sqa1 := Same.seq (less_keep kx6) Sqa1
      have Sqa2 := Same.seq (less_keep kx6) Sqa2
      have k03 := k03.trans kx6
      have p3 := p3.same s6
      have Sqa3 : SqL K (less p H6) qa3 (((wsOf line).take a ++ (wsOf line).drop (a + 1)).map V.str) := SqL.of (less_at nqa3 v6)
      have fr : ∀ z ∈ (wsOf line).take a ++ (wsOf line).drop (a + 1), 10 ∉ tl z := mem_ap (mem_tk fW) (mem_dr fW)
      have wz : wt ((wsOf line).take a ++ (wsOf line).drop (a + 1)) ≤ 2 * Mx + 30 := by rw [wt_app]; omega
      refine ⟨(" " : Str), qa3, (wsOf line).take a ++ (wsOf line).drop (a + 1), rfl, rfl, .inl ((less_same _ _).seq Sqa3), ?_, kk _ _ k03 (p3.mono (by omega)) (join_ln fr wz)⟩
      have e1 : (((wsOf line).take a ++ (wsOf line).drop (a + 1)).map (·.length)).sum + ((wsOf line).take a ++ (wsOf line).drop (a + 1)).length = wt ((wsOf line).take a ++ (wsOf line).drop (a + 1)) := rfl
      rw [sp1]
      omega
    refine ⟨_, rfl, rfl, _, rfl, ?_⟩
    refine ite2 (fun _ => ?_) (fun _ => ?_)
    · refine ⟨⟨_, rfl⟩, _, rfl, _, rfl, _, rfl, q, _, rfl, ((less_same _ _).seq Sw), fun qa1 hqa1 => ?_⟩
      generalize e4 : upd H3 qa1 _ = H4
      have s4 := al_s e4 hqa1
      have v4 := al_v e4
      clear e4
      rw [cut_to, ← List.map_take] at v4
      have nqa1 : qa1 ≠ p := p3.ne hqa1
      have kx4 : Keep p H3 H4 := Keep.of s4
      have Sw := Same.seq (less_keep kx4) Sw
      have k03 := k03.trans kx4
      have p3 := p3.same s4
      have Sqa1 : SqL K (less p H4) qa1 (((wsOf line).take a).map V.str) := SqL.of (less_at nqa1 v4)
      refine ⟨_, rfl, _, rfl, p, q, _, Mx, wsOf line, rfl, p3, by omega, Sw, by omega, (fun z hz => ws_ln hln hz), fun H5 y k5 p5 hy => ?_⟩
      have Sw := Same.seq (less_keep k5) Sw
      have Sqa1 := Same.seq (less_keep k5) Sqa1
      have k03 := k03.trans k5
      have p3 := p5
      refine ⟨by show 1 ≤ sizeLine; decide, fun qa2 hqa2 => ?_⟩
      generalize e6 : upd H5 qa2 _ = H6
      have s6 := al_s e6 hqa2
      have v6 := al_v e6
      clear e6
      have nqa2 : qa2 ≠ p := p3.ne hqa2
      have kx6 : Keep p H5 H6 := Keep.of s6
      have Sw := Same.seq (less_keep kx6) Sw
      have Sqa1 := Same.seq (less_keep kx6) Sqa1
      have k03 := k03.trans kx6
      have p3 := p3.same s6
      have Sqa2 : SqL K (less p H6) qa2 (([y]).map V.str) := SqL.of (less_at nqa2 v6)
      refine ⟨qa1, qa2, _, _, rfl, rfl, ((less_same _ _).seq Sqa1), ((less_same _ _).seq Sqa2), by (rw [List.length_map, List.length_map, sizeLine_eq]; simp only [List.length_append, List.length_take, List.length_drop, List.length_cons, List.length_nil]; omega), fun qa3 hqa3 => ?_⟩
      generalize e7 : upd H6 qa3 _ = H7
      have s7 := al_s e7 hqa3
      have v7 := al_v e7
      clear e7
      rw [← List.map_append] at v7
      have nqa3 : qa3 ≠ p := p3.ne hqa3
      have kx7 : Keep p H6 H7 := Keep.of s7
      have Sw := Same.seq (less_keep kx7) Sw
      have Sqa1 := Same.seq (less_keep kx7) Sqa1
      have Sqa2 := Same.seq (less_keep kx7) Sqa2
      have k03 := k03.trans kx7
      have p3 := p3.same s7
      have Sqa3 : SqL K (less p H7) qa3 (((wsOf line).take a ++ [y]).map V.str) := SqL.of (less_at nqa3 v7)
      refine ⟨_, rfl, _, rfl, _, rfl, q, _, rfl, ((less_same _ _).seq Sw), fun qa4 hqa4 => ?_⟩
      generalize e8 : upd H7 qa4 _ = H8
      have s8 := al_s e8 hqa4
      have v8 := al_v e8
      clear e8
      rw [cut_from, ← List.map_drop] at v8
      have nqa4 : qa4 ≠ p := p3.ne hqa4
      have kx8 : Keep p H7 H8 := Keep.of s8
      have Sw := Same.seq (less_keep kx8) Sw
      have Sqa1 := Same.seq (less_keep kx8) Sqa1
      have Sqa2 := Same.seq (less_keep kx8) Sqa2
      have Sqa3 := Same.seq (less_keep kx8) Sqa3
      have k03 := k03.trans kx8
      have p3 := p3.same s8
      have Sqa4 : SqL K (less p H8) qa4 (((wsOf line).drop a).map V.str) := SqL.of (less_at nqa4 v8)
      refine ⟨qa3, qa4, _, _, rfl, rfl, ((less_same _ _).seq Sqa3), ((less_same _ _).seq Sqa4), by (rw [List.length_map, List.length_map, sizeLine_eq]; simp only [List.length_append, List.length_take, List.length_drop, List.length_cons, List.length_nil]; omega), fun qa5 hqa5 => ?_⟩
      generalize e9 : upd H8 qa5 _ = H9
      have s9 := al_s e9 hqa5
      have v9 := al_v e9
      clear e9
      rw [← List.map_append] at v9
      have nqa5 : qa5 ≠ p := p3.ne hqa5
      have kx9 : Keep p H8 H9 := Keep.of s9
      have Sw := Same.seq (less_keep kx9) Sw
      have Sqa1 := Same.seq (less_keep kx9) Sqa1
      have Sqa2 := Same.seq (less_keep kx9) Sqa2
      have Sqa3 := Same.seq (less_keep kx9) Sqa3
      have Sqa4 := Same.seq (less_keep kx9) Sqa4
      have k03 := k03.trans kx9
      have p3 := p3.same s9
      have Sqa5 : SqL K (less p H9) qa5 ((((wsOf line).take a ++ [y]) ++ (wsOf line).drop a).map V.str) := SqL.of (less_at nqa5 v9)
      have fr : ∀ z ∈ ((wsOf line).take a ++ [y]) ++ (wsOf line).drop a, 10 ∉ tl z := mem_ap (mem_ap (mem_tk fW) (mem_on hy.2)) (mem_dr fW)
      have wz : wt (((wsOf line).take a ++ [y]) ++ (wsOf line).drop a) ≤ 2 * Mx + 30 := by (have := hy.1); rw [wt_app, wt_app, wt_one]; omega
      refine ⟨(" " : Str), qa5, ((wsOf line).take a ++ [y]) ++ (wsOf line).drop a, rfl, rfl, .inl ((less_same _ _).seq Sqa5), ?_, kk _ _ k03 (p3.mono (by omega)) (join_ln fr wz)⟩
      have e1 : ((((wsOf line).take a ++ [y]) ++ (wsOf line).drop a).map (·.length)).sum + (((wsOf line).take a ++ [y]) ++ (wsOf line).drop a).length = wt (((wsOf line).take a ++ [y]) ++ (wsOf line).drop a) := rfl
      rw [sp1]
      omega
    · refine ⟨⟨_, rfl⟩, _, rfl, _, rfl, _, rfl, q, _, rfl, ((less_same _ _).seq Sw), fun qa1 hqa1 => ?_⟩
      generalize e4 : upd H3 qa1 _ = H4
      have s4 := al_s e4 hqa1
      have v4 := al_v e4
      clear e4
      rw [cut_to, ← List.map_take] at v4
      have nqa1 : qa1 ≠ p := p3.ne hqa1
      have kx4 : Keep p H3 H4 := Keep.of s4
      have Sw := Same.seq (less_keep kx4) Sw
      have k03 := k03.trans kx4
      have p3 := p3.same s4
      have Sqa1 : SqL K (less p H4) qa1 (((wsOf line).take a).map V.str) := SqL.of (less_at nqa1 v4)
      refine ⟨_, rfl, _, rfl, p, q, _, Mx, wsOf line, rfl, p3, by omega, Sw, by omega, (fun z hz => ws_ln hln hz), fun H5 y k5 p5 hy => ?_⟩
      have Sw := Same.seq (less_keep k5) Sw
      have Sqa1 := Same.seq (less_keep k5) Sqa1
      have k03 := k03.trans k5
      have p3 := p5
      refine ⟨by show 1 ≤ sizeLine; decide, fun qa2 hqa2 => ?_⟩
      generalize e6 : upd H5 qa2 _ = H6
      have s6 := al_s e6 hqa2
      have v6 := al_v e6
      clear e6
      have nqa2 : qa2 ≠ p := p3.ne hqa2
      have kx6 : Keep p H5 H6 := Keep.of s6
      have Sw := Same.seq (less_keep kx6) Sw
      have Sqa1 := Same.seq (less_keep kx6) Sqa1
      have k03 := k03.trans kx6
      have p3 := p3.same s6
      have Sqa2 : SqL K (less p H6) qa2 (([y]).map V.str) := SqL.of (less_at nqa2 v6)
      refine ⟨qa1, qa2, _, _, rfl, rfl, ((less_same _ _).seq Sqa1), ((less_same _ _).seq Sqa2), by (rw [List.length_map, List.length_map, sizeLine_eq]; simp only [List.length_append, List.length_take, List.length_drop, List.length_cons, List.length_nil]; omega), fun qa3 hqa3 => ?_⟩
      generalize e7 : upd H6 qa3 _ = H7
      have s7 := al_s e7 hqa3
      have v7 := al_v e7
      clear e7
      rw [← List.map_append] at v7
      have nqa3 : qa3 ≠ p := p3.ne hqa3
      have kx7 : Keep p H6 H7 := Keep.of s7
      have Sw := Same.seq (less_keep kx7) Sw
      have Sqa1 := Same.seq (less_keep kx7) Sqa1
      have Sqa2 := Same.seq (less_keep kx7) Sqa2
      have k03 := k03.trans kx7
      have p3 := p3.same s7
      have Sqa3 : SqL K (less p H7) qa3 (((wsOf line).take a ++ [y]).map V.str) := SqL.of (less_at nqa3 v7)
      refine ⟨_, rfl, _, rfl, _, _, rfl, rfl, _, rfl, q, _, rfl, ((less_same _ _).seq Sw), fun qa4 hqa4 => ?_⟩
      generalize e8 : upd H7 qa4 _ = H8
      have s8 := al_s e8 hqa4
      have v8 := al_v e8
      clear e8
      rw [show ((a : Int) + 1) = ((a + 1 : Nat) : Int) from rfl, cut_from, ← List.map_drop] at v8
      have nqa4 : qa4 ≠ p := p3.ne hqa4
      have kx8 : Keep p H7 H8 := Keep.of s8
      have Sw := Same.seq (less_keep kx8) Sw
      have Sqa1 := Same.seq (less_keep kx8) Sqa1
      have Sqa2 := Same.seq (less_keep kx8) Sqa2
      have Sqa3 := Same.seq (less_keep kx8) Sqa3
      have k03 := k03.trans kx8
      have p3 := p3.same s8
      have Sqa4 : SqL K (less p H8) qa4 (((wsOf line).drop (a + 1)).map V.str) := SqL.of (less_at nqa4 v8)
      refine ⟨qa3, qa4, _, _, rfl, rfl, ((less_same _ _).seq Sqa3), ((less_same _ _).seq Sqa4), by (rw [List.length_map, List.length_map, sizeLine_eq]; simp only [List.length_append, List.length_take, List.length_drop, List.length_cons, List.length_nil]; omega), fun qa5 hqa5 => ?_⟩
      generalize e9 : upd H8 qa5 _ = H9
      have s9 := al_s e9 hqa5
      have v9 := al_v e9
      clear e9
      rw [← List.map_append] at v9
      have nqa5 : qa5 ≠ p := p3.ne hqa5
      have kx9 : Keep p H8 H9 := Keep.of s9
      have Sw := Same.seq (less_keep kx9) Sw
      have Sqa1 := Same.seq (less_keep kx9) Sqa1
      have Sqa2 := Same.seq (less_keep kx9) Sqa2
      have Sqa3 := Same.seq (less_keep kx9) Sqa3
      have Sqa4 := Same.seq (less_keep kx9) Sqa4
      have k03 := k03.trans kx9
      have p3 := p3.same s9
      have Sqa5 : SqL K (less p H9) qa5 ((((wsOf line).take a ++ [y]) ++ (wsOf line).drop (a + 1)).map V.str) := SqL.of (less_at nqa5 v9)
      have fr : ∀ z ∈ ((wsOf line).take a ++ [y]) ++ (wsOf line).drop (a + 1), 10 ∉ tl z := mem_ap (mem_ap (mem_tk fW) (mem_on hy.2)) (mem_dr fW)
      have wz : wt (((wsOf line).take a ++ [y]) ++ (wsOf line).drop (a + 1)) ≤ 2 * Mx + 30 := by (have := hy.1); rw [wt_app, wt_app, wt_one]; omega
      refine ⟨(" " : Str), qa5, ((wsOf line).take a ++ [y]) ++ (wsOf line).drop (a + 1), rfl, rfl, .inl ((less_same _ _).seq Sqa5), ?_, kk _ _ k03 (p3.mono (by omega)) (join_ln fr wz)⟩
      have e1 : ((((wsOf line).take a ++ [y]) ++ (wsOf line).drop (a + 1)).map (·.length)).sum + (((wsOf line).take a ++ [y]) ++ (wsOf line).drop (a + 1)).length = wt (((wsOf line).take a ++ [y]) ++ (wsOf line).drop (a + 1)) := rfl
      rw [sp1]
      omega
end
end Ow

/-! law k03: _law_more, _law_changed -/
namespace Ow
open PySem PySem.Spec L2 TL
def spMore (K : PySem.W.Frag) : Sp := fun vs H Q _ => ∃ (p l : Addr) (n : Nat), vs = [.ref p, .ref l] ∧ PoolAt H p n ∧ n < 2 ^ 39 ∧ ∀ H' (q : Addr) (zs : List Str), Keep p H H' → PoolAt H' p (n + 20) → SqL K (less p H') q (zs.map V.str) → zs.length ≤ 7 → (∀ z ∈ zs, LnS 14 z) → Q (.ref q) H'
def spCh (K : PySem.W.Frag) : Sp := fun vs H Q _ => ∃ (p l : Addr) (n Mx : Nat) (ls : List Str), vs = [.ref p, .ref l] ∧ PoolAt H p n ∧ n < 2 ^ 38 ∧ SqL K (less p H) l (ls.map V.str) ∧ 0 < ls.length ∧ ls.length ≤ 500 ∧ (∀ z ∈ ls, LnS Mx z) ∧ Mx ≤ 800 ∧
  ∀ H' (q : Addr) (zs : List Str), Keep p H H' → PoolAt H' p (n + 40) → SqL K (less p H') q (zs.map V.str) → zs.length ≤ ls.length + 7 → (∀ z ∈ zs, LnS (2 * Mx + 30) z) → Q (.ref q) H'
section
variable {P : Program} {w : World} {K : PySem.W.Frag} {mg : Str → Option Value} {base : Heap}
theorem sc_law_more : FnScope [("_law_pool_here" : Str), ("_law_lines_here" : Str), ("_law_k" : Str)] [("_law_pool_here" : Str), ("_law_lines_here" : Str)] (defScope s_law_more) := ⟨rfl, rfl, rfl, by decide +kernel, rfl, by decide +kernel, by decide +kernel⟩
theorem ok_more (D : TopD K mg "_law_more" s_law_more) (T : Blt mg) (F_draw : FnAt P w K mg base "_law_draw" [("_law_pool_here" : Str), ("_law_many" : Str)] 1 spDraw) (F_word : FnAt P w K mg base "_law_word" [("_law_pool_here" : Str), ("_law_taken" : Str)] 2 (spWord K)) : FnAt P w K mg base "_law_more" [("_law_pool_here" : Str), ("_law_lines_here" : Str)] 3 (spMore K) := by
  refine fn_at D sc_law_more (fun _ _ _ _ _ _ us hl => match us, hl with | [_, _], _ => rfl) (fun vs H Q E h => ?_) (fun f cdv A outer s H vs Q E hr h => ?_)
  · obtain ⟨p, l, n, rfl, _⟩ := h
    rfl
  · obtain ⟨p, l, n, rfl, hp, hn, kk⟩ := h
    have b40 : (2 : Nat) ^ 39 + 100 < 2 ^ 50 := by decide
    have b60 : (2 : Nat) ^ 50 < 2 ^ 60 := by decide
    refine ⟨_, (pss_cons (ps_if (pt_cmpR op_eq (pe_fn F_draw (hr.mono (by decide)) (by rfl) (pa_cons (pv 0) (pa_cons pe_int pa_nil))) pe_int (nomark _))
      (pss_one (ps_ret (pe_lc (own := [(("_law_k" : Str), 2)]) (by rfl) sc_law_more.nd (pi_range1 rfl T.range (pa_cons (pe_op op_add pe_int (pe_fn F_draw (hr.mono (by decide)) (by rfl) (pa_cons (pv 0) (pa_cons pe_int pa_nil)))) pa_nil)) (blkOk_by (own := [(("_law_k" : Str), 2)]) (N := [("_law_pool_here" : Str), ("_law_lines_here" : Str), ("_law_k" : Str)]) (sc := defScope s_law_more) (by decide +kernel)) (fun _ _ _ _ _ => pg_name (i := 2) sc_law_more.nd rfl (Or.inl rfl)) (fun _ _ _ _ _ => pts_nil) (fun _ _ _ _ _ => (pe_op op_add_str pe_str (pe_fn F_word (hr.mono (by decide)) (by rfl) (pa_cons (pv 0) (pa_cons (pe_lst pa_nil) pa_nil))))))))
      pss_nil)
      (pss_one (ps_ret (pe_lc (own := [(("_law_k" : Str), 2)]) (by rfl) sc_law_more.nd (pi_range1 rfl T.range (pa_cons (pe_op op_add pe_int (pe_fn F_draw (hr.mono (by decide)) (by rfl) (pa_cons (pv 0) (pa_cons pe_int pa_nil)))) pa_nil)) (blkOk_by (own := [(("_law_k" : Str), 2)]) (N := [("_law_pool_here" : Str), ("_law_lines_here" : Str), ("_law_k" : Str)]) (sc := defScope s_law_more) (by decide +kernel)) (fun _ _ _ _ _ => pg_name (i := 2) sc_law_more.nd rfl (Or.inl rfl)) (fun _ _ _ _ _ => pts_nil) (fun _ _ _ _ _ => (pe_op op_add_str pe_str (pe_fn F_word (hr.mono (by decide)) (by rfl) (pa_cons (pv 0) (pa_cons (pe_lst pa_nil) pa_nil))))))))), ?_⟩
    refine ⟨_, rfl, p, n, 2, rfl, hp, by omega, by decide, by decide, fun H1 d1 k1 p1 d10 d11 => ?_⟩
    refine ⟨rfl, _, rfl, ?_⟩
    refine ite2 (fun _ => ?_) (fun _ => ?_)
    · refine ⟨_, rfl, p, n + 1, 7, rfl, p1, by omega, by decide, by decide, fun H2 d2 k2 p2 d20 d21 => ?_⟩
      obtain ⟨b, rfl⟩ := Int.eq_ofNat_of_zero_le d20
      refine ⟨_, _, rfl, rfl, _, rfl, by omega, by omega, fun L hL => ?_⟩
      have nL := p2.ne hL
      have k02 := k1.trans k2
      refine lc_range (lo := 0) (fun i H' => Keep p H2 H' ∧ PoolAt H' p (n + 2 + 2 * i) ∧ ∃ zs : List Str, H' L = some (.lst (zs.map V.str)) ∧ zs.length = i ∧ ∀ z ∈ zs, LnS 14 z) ⟨Keep.of (same_upd hL), p2.same (same_upd hL), [], upd_same, rfl, (fun _ z => nomatch z)⟩ ?_ ?_
      · rintro i H3 hi ⟨k3, p3, zs, h3, l3, o3⟩
        have hi7 : i < 8 := by omega
        refine ⟨rfl, yes_ ⟨_, rfl, by show 0 ≤ sizeLine; decide, fun e0 he0 => ?_⟩⟩
        generalize e4 : upd H3 e0 _ = H4
        have s4 := al_s e4 he0
        have h4 := al_v e4
        clear e4
        refine ⟨p, e0, n + 2 + 2 * i, [], rfl, p3.same s4, by omega, SqL.of (less_at (p3.ne he0) h4), by decide, fun H5 y k5 p5 y1 _ _ => ?_⟩
        have ly := word_ln y1
        have lp : (("flag " : Str)).length = 5 := by decide +kernel
        refine ⟨_, _, rfl, rfl, by rw [lp, sizeLine_eq]; have := ly.1; omega, ?_⟩
        have h5 := k5 _ _ nL (s4 _ _ h3)
        refine ⟨_, h5, by rw [List.length_map, sizeLine_eq]; omega, ?_, ?_, zs ++ [("flag " : Str) ++ y], ?_, ?_, ?_⟩
        · exact fun c o nc e => by
            rw [upd_ne (ne_of_none e hL)]
            exact k5 _ _ nc (s4 _ _ (k3 _ _ nc e))
        · obtain ⟨a, b, c, q, r⟩ := p5.mono (show _ ≤ n + 2 + 2 * (i + 1) by omega)
          exact ⟨a, b, c, by rw [upd_ne nL.symm]; exact q, r⟩
        · rw [upd_same, List.map_append]
          rfl
        · rw [List.length_append, l3]
          rfl
        · intro z hz
          rcases List.mem_append.mp hz with hz | hz
          · exact o3 z hz
          · rw [List.mem_singleton.mp hz]
            exact (app_ln (M := 5) (N := 8) ⟨by rw [lp]; omega, by decide +kernel⟩ ly).mono (by omega)
      · rintro H3 ⟨k3, p3, zs, h3, l3, o3⟩
        exact kk _ L zs (k02.trans k3) (p3.mono (by omega)) (SqL.of (less_at nL h3)) (by omega) o3
    · refine ⟨_, rfl, p, n + 1, 5, rfl, p1, by omega, by decide, by decide, fun H2 d2 k2 p2 d20 d21 => ?_⟩
      obtain ⟨b, rfl⟩ := Int.eq_ofNat_of_zero_le d20
      refine ⟨_, _, rfl, rfl, _, rfl, by omega, by omega, fun L hL => ?_⟩
      have nL := p2.ne hL
      have k02 := k1.trans k2
      refine lc_range (lo := 0) (fun i H' => Keep p H2 H' ∧ PoolAt H' p (n + 2 + 2 * i) ∧ ∃ zs : List Str, H' L = some (.lst (zs.map V.str)) ∧ zs.length = i ∧ ∀ z ∈ zs, LnS 14 z) ⟨Keep.of (same_upd hL), p2.same (same_upd hL), [], upd_same, rfl, (fun _ z => nomatch z)⟩ ?_ ?_
      · rintro i H3 hi ⟨k3, p3, zs, h3, l3, o3⟩
        have hi7 : i < 8 := by omega
        refine ⟨rfl, yes_ ⟨_, rfl, by show 0 ≤ sizeLine; decide, fun e0 he0 => ?_⟩⟩
        generalize e4 : upd H3 e0 _ = H4
        have s4 := al_s e4 he0
        have h4 := al_v e4
        clear e4
        refine ⟨p, e0, n + 2 + 2 * i, [], rfl, p3.same s4, by omega, SqL.of (less_at (p3.ne he0) h4), by decide, fun H5 y k5 p5 y1 _ _ => ?_⟩
        have ly := word_ln y1
        have lp : (("table " : Str)).length = 6 := by decide +kernel
        refine ⟨_, _, rfl, rfl, by rw [lp, sizeLine_eq]; have := ly.1; omega, ?_⟩
        have h5 := k5 _ _ nL (s4 _ _ h3)
        refine ⟨_, h5, by rw [List.length_map, sizeLine_eq]; omega, ?_, ?_, zs ++ [("table " : Str) ++ y], ?_, ?_, ?_⟩
        · exact fun c o nc e => by
            rw [upd_ne (ne_of_none e hL)]
            exact k5 _ _ nc (s4 _ _ (k3 _ _ nc e))
        · obtain ⟨a, b, c, q, r⟩ := p5.mono (show _ ≤ n + 2 + 2 * (i + 1) by omega)
          exact ⟨a, b, c, by rw [upd_ne nL.symm]; exact q, r⟩
        · rw [upd_same, List.map_append]
          rfl
        · rw [List.length_append, l3]
          rfl
        · intro z hz
          rcases List.mem_append.mp hz with hz | hz
          · exact o3 z hz
          · rw [List.mem_singleton.mp hz]
            exact (app_ln (M := 6) (N := 8) ⟨by rw [lp]; omega, by decide +kernel⟩ ly).mono (by omega)
      · rintro H3 ⟨k3, p3, zs, h3, l3, o3⟩
        exact kk _ L zs (k02.trans k3) (p3.mono (by omega)) (SqL.of (less_at nL h3)) (by omega) o3
theorem sc_law_changed : FnScope [("_law_pool_here" : Str), ("_law_lines_here" : Str), ("_law_at" : Str), ("_law_to" : Str), ("_law_choice" : Str), ("_law_rest" : Str)] [("_law_pool_here" : Str), ("_law_lines_here" : Str)] (defScope s_law_changed) := ⟨rfl, rfl, rfl, by decide +kernel, rfl, by decide +kernel, by decide +kernel⟩
theorem ok_ch (D : TopD K mg "_law_changed" s_law_changed) (T : Blt mg) (F_draw : FnAt P w K mg base "_law_draw" [("_law_pool_here" : Str), ("_law_many" : Str)] 1 spDraw) (F_more : FnAt P w K mg base "_law_more" [("_law_pool_here" : Str), ("_law_lines_here" : Str)] 3 (spMore K)) (F_lch : FnAt P w K mg base "_law_line_changed" [("_law_pool_here" : Str), ("_law_line" : Str)] 4 spLch) : FnAt P w K mg base "_law_changed" [("_law_pool_here" : Str), ("_law_lines_here" : Str)] 5 (spCh K) := by
  refine fn_at D sc_law_changed (fun _ _ _ _ _ _ us hl => match us, hl with | [_, _], _ => rfl) (fun vs H Q E h => ?_) (fun f cdv A outer s H vs Q E hr h => ?_)
  · obtain ⟨p, l, n, Mx, ls, rfl, _⟩ := h
    rfl
  · obtain ⟨p, l, n, Mx, ls, rfl, hp, hn, hS, pos, few, hls, hM, kk⟩ := h
    have b39 : (2 : Nat) ^ 38 + 100 < 2 ^ 39 := by decide
    have b60 : (2 : Nat) ^ 39 + 100 < 2 ^ 60 := by decide
    have b200 : (2000 : Nat) < 2 ^ 200 := by decide
    refine ⟨_, (pss_cons (ps_par3 (i := 2) (j := 3) (l := 4) (by rfl) sc_law_changed.nd rfl rfl rfl (by decide) (by decide) (by decide) rfl rfl rfl (pa_cons (pe_fn F_draw (hr.mono (by decide)) (by rfl) (pa_cons (pv 0) (pa_cons (pe_callB call_len_seq (by rfl) T.len PySem.boot_len (pa_cons (pv 1) pa_nil)) pa_nil))) (pa_cons (pe_fn F_draw (hr.mono (by decide)) (by rfl) (pa_cons (pv 0) (pa_cons (pe_callB call_len_seq (by rfl) T.len PySem.boot_len (pa_cons (pv 1) pa_nil)) pa_nil))) (pa_cons (pe_fn F_draw (hr.mono (by decide)) (by rfl) (pa_cons (pv 0) (pa_cons pe_int pa_nil))) pa_nil))) (by rfl))
      (pss_cons (ps_if (pt_cmpR op_eq (pv 4) pe_int (nomark _))
      (pss_one (ps_ret (pe_op op_catS (pe_slice sl_list (pv 1) po_none (po_some (pv 2))) (pe_slice sl_list (pv 1) (po_some (pe_op op_add (pv 2) pe_int)) po_none))))
      pss_nil)
      (pss_cons (ps_if (pt_cmpR op_eq (pv 4) pe_int (nomark _))
      (pss_one (ps_ret (pe_op op_catS (pe_op op_catS (pe_slice sl_list (pv 1) po_none (po_some (pv 2))) (pe_lst (pa_cons pe_str pa_nil))) (pe_slice sl_list (pv 1) (po_some (pv 2)) po_none))))
      pss_nil)
      (pss_cons (ps_if (pt_cmpR op_eq (pv 4) pe_int (nomark _))
      (pss_one (ps_ret (pe_op op_catS (pe_op op_catS (pe_slice sl_list (pv 1) po_none (po_some (pv 3))) (pe_lst (pa_cons (pe_ix ix_list (pv 1) (pv 2) (fun _ _ => rfl)) pa_nil))) (pe_slice sl_list (pv 1) (po_some (pv 3)) po_none))))
      pss_nil)
      (pss_cons (ps_if (pt_cmpR op_eq (pv 4) pe_int (nomark _))
      (pss_cons (ps_set (i := 5) sc_law_changed.nd rfl (Or.inl rfl) (pe_op op_catS (pe_slice sl_list (pv 1) po_none (po_some (pv 2))) (pe_slice sl_list (pv 1) (po_some (pe_op op_add (pv 2) pe_int)) po_none)))
      (pss_one (ps_ret (pe_op op_catS (pe_op op_catS (pe_slice sl_list (pv 5) po_none (po_some (pv 3))) (pe_lst (pa_cons (pe_ix ix_list (pv 1) (pv 2) (fun _ _ => rfl)) pa_nil))) (pe_slice sl_list (pv 5) (po_some (pv 3)) po_none)))))
      pss_nil)
      (pss_cons (ps_if (pt_cmpR op_eq (pv 4) pe_int (nomark _))
      (pss_one (ps_ret (pe_op op_catS (pe_op op_catS (pe_slice sl_list (pv 1) po_none (po_some (pv 2))) (pe_fn F_more (hr.mono (by decide)) (by rfl) (pa_cons (pv 0) (pa_cons (pv 1) pa_nil)))) (pe_slice sl_list (pv 1) (po_some (pv 2)) po_none))))
      pss_nil)
      (pss_one (ps_ret (pe_op op_catS (pe_op op_catS (pe_slice sl_list (pv 1) po_none (po_some (pv 2))) (pe_lst (pa_cons (pe_fn F_lch (hr.mono (by decide)) (by rfl) (pa_cons (pv 0) (pa_cons (pe_ix ix_list (pv 1) (pv 2) (fun _ _ => rfl)) pa_nil))) pa_nil))) (pe_slice sl_list (pv 1) (po_some (pe_op op_add (pv 2) pe_int)) po_none)))))))))), ?_⟩
    refine ⟨_, rfl, _, rfl, l, _, rfl, .inl ((less_same _ _).seq hS), p, n, _, rfl, hp, by omega, by rw [List.length_map]; omega, by rw [List.length_map]; omega, fun H1 d1 k1 p1 d10 d11 => ?_⟩
    have S1 := Same.seq (less_keep k1) hS
    refine ⟨_, rfl, _, rfl, l, _, rfl, .inl ((less_same _ _).seq S1), p, n + 1, _, rfl, p1, by omega, by rw [List.length_map]; omega, by rw [List.length_map]; omega, fun H2 d2 k2 p2 d20 d21 => ?_⟩
    have S2 := Same.seq (less_keep k2) S1
    refine ⟨_, rfl, p, n + 2, 8, rfl, p2, by omega, by decide, by decide, fun H3 d3 k3 p3 d30 d31 => ?_⟩
    have Sl := Same.seq (less_keep k3) S2
    have k03 : Keep p H H3 := k1.trans (k2.trans k3)
    refine ⟨_, _, _, rfl, ?_⟩
    obtain ⟨a, rfl⟩ := Int.eq_ofNat_of_zero_le d10
    obtain ⟨b, rfl⟩ := Int.eq_ofNat_of_zero_le d20
    rw [List.length_map] at d11 d21
    have ha : a < ls.length := by omega
    have hb : b < ls.length := by omega
    have o1 : ∀ z ∈ ls, LnS (2 * Mx + 30) z := fun z hz => (hls z hz).mono (by omega)
    have oe : LnS (2 * Mx + 30) ("" : Str) := ⟨by have : (("" : Str)).length = 0 := by decide +kernel
                                                  omega, by decide +kernel⟩
    have oa : LnS (2 * Mx + 30) (wd ls a) := o1 _ (wd_mem ha)
    refine ⟨_, rfl, rfl, _, rfl, ?_⟩
    refine ite2 (fun _ => ?_) (fun _ => ?_)
    · refine ⟨_, rfl, _, rfl, _, rfl, l, _, rfl, ((less_same _ _).seq Sl), fun qa1 hqa1 => ?_⟩
      generalize e4 : upd H3 qa1 _ = H4
      have s4 := al_s e4 hqa1
      have v4 := al_v e4
      clear e4
      rw [cut_to, ← List.map_take] at v4
      have nqa1 : qa1 ≠ p := p3.ne hqa1
      have kx4 : Keep p H3 H4 := Keep.of s4
      have Sl := Same.seq (less_keep kx4) Sl
      have k03 := k03.trans kx4
      have p3 := p3.same s4
      have Sqa1 : SqL K (less p H4) qa1 (((ls).take a).map V.str) := SqL.of (less_at nqa1 v4)
      refine ⟨_, rfl, _, rfl, _, _, rfl, rfl, _, rfl, l, _, rfl, ((less_same _ _).seq Sl), fun qa2 hqa2 => ?_⟩
      generalize e5 : upd H4 qa2 _ = H5
      have s5 := al_s e5 hqa2
      have v5 := al_v e5
      clear e5
      rw [show ((a : Int) + 1) = ((a + 1 : Nat) : Int) from rfl, cut_from, ← List.map_drop] at v5
      have nqa2 : qa2 ≠ p := p3.ne hqa2
      have kx5 : Keep p H4 H5 := Keep.of s5
      have Sl := Same.seq (less_keep kx5) Sl
      have Sqa1 := Same.seq (less_keep kx5) Sqa1
      have k03 := k03.trans kx5
      have p3 := p3.same s5
      have Sqa2 : SqL K (less p H5) qa2 (((ls).drop (a + 1)).map V.str) := SqL.of (less_at nqa2 v5)
      refine ⟨qa1, qa2, _, _, rfl, rfl, ((less_same _ _).seq Sqa1), ((less_same _ _).seq Sqa2), by (rw [List.length_map, List.length_map, sizeLine_eq]; simp only [List.length_append, List.length_take, List.length_drop, List.length_cons, List.length_nil]; omega), fun qa3 hqa3 => ?_⟩
      generalize e6 : upd H5 qa3 _ = H6
      have s6 := al_s e6 hqa3
      have v6 := al_v e6
      clear e6
      rw [← List.map_append] at v6
      have nqa3 : qa3 ≠ p := p3.ne hqa3
      have kx6 : Keep p H5 H6 := Keep.of s6
      have Sl := Same.seq (less_keep kx6) Sl
      have Sqa1 := Same.seq (less_keep kx6) Sqa1
      have Sqa2 := Same.seq (less_keep kx6) Sqa2
      have k03 := k03.trans kx6
      have p3 := p3.same s6
      have Sqa3 : SqL K (less p H6) qa3 (((ls).take a ++ (ls).drop (a + 1)).map V.str) := SqL.of (less_at nqa3 v6)
      refine kk _ qa3 ((ls).take a ++ (ls).drop (a + 1)) k03 (p3.mono (by omega)) Sqa3 (by simp only [List.length_append, List.length_take, List.length_drop, List.length_cons, List.length_nil]; omega) (mem_ap (mem_tk o1) (mem_dr o1))
    refine ⟨_, rfl, rfl, _, rfl, ?_⟩
    refine ite2 (fun _ => ?_) (fun _ => ?_)
    · refine ⟨_, rfl, _, rfl, _, rfl, l, _, rfl, ((less_same _ _).seq Sl), fun qa1 hqa1 => ?_⟩
      generalize e4 : upd H3 qa1 _ = H4
      have s4 := al_s e4 hqa1
      have v4 := al_v e4
      clear e4
      rw [cut_to, ← List.map_take] at v4
      have nqa1 : qa1 ≠ p := p3.ne hqa1
      have kx4 : Keep p H3 H4 := Keep.of s4
      have Sl := Same.seq (less_keep kx4) Sl
      have k03 := k03.trans kx4
      have p3 := p3.same s4
      have Sqa1 : SqL K (less p H4) qa1 (((ls).take a).map V.str) := SqL.of (less_at nqa1 v4)
      refine ⟨by show 1 ≤ sizeLine; decide, fun qa2 hqa2 => ?_⟩
      generalize e5 : upd H4 qa2 _ = H5
      have s5 := al_s e5 hqa2
      have v5 := al_v e5
      clear e5
      have nqa2 : qa2 ≠ p := p3.ne hqa2
      have kx5 : Keep p H4 H5 := Keep.of s5
      have Sl := Same.seq (less_keep kx5) Sl
      have Sqa1 := Same.seq (less_keep kx5) Sqa1
      have k03 := k03.trans kx5
      have p3 := p3.same s5
      have Sqa2 : SqL K (less p H5) qa2 (([("" : Str)]).map V.str) := SqL.of (less_at nqa2 v5)
      refine ⟨qa1, qa2, _, _, rfl, rfl, ((less_same _ _).seq Sqa1), ((less_same _ _).seq Sqa2), by (rw [List.length_map, List.length_map, sizeLine_eq]; simp only [List.length_append, List.length_take, List.length_drop, List.length_cons, List.length_nil]; omega), fun qa3 hqa3 => ?_⟩
      generalize e6 : upd H5 qa3 _ = H6
      have s6 := al_s e6 hqa3
      have v6 := al_v e6
      clear e6
      rw [← List.map_append] at v6
      have nqa3 : qa3 ≠ p := p3.ne hqa3
      have kx6 : Keep p H5 H6 := Keep.of s6
      have Sl := Same.seq (less_keep kx6) Sl
      have Sqa1 := Same.seq (less_keep kx6) Sqa1
      have Sqa2 := Same.seq (less_keep kx6) Sqa2
      have k03 := k03.trans kx6
      have p3 := p3.same s6
      have Sqa3 : SqL K (less p H6) qa3 (((ls).take a ++ [("" : Str)]).map V.str) := SqL.of (less_at nqa3 v6)
      refine ⟨_, rfl, _, rfl, _, rfl, l, _, rfl, ((less_same _ _).seq Sl), fun qa4 hqa4 => ?_⟩
      generalize e7 : upd H6 qa4 _ = H7
      have s7 := al_s e7 hqa4
      have v7 := al_v e7
      clear e7
      rw [cut_from, ← List.map_drop] at v7
      have nqa4 : qa4 ≠ p := p3.ne hqa4
      have kx7 : Keep p H6 H7 := Keep.of s7
      have Sl := Same.seq (less_keep kx7) Sl
      have Sqa1 := Same.seq (less_keep kx7) Sqa1
      have Sqa2 := Same.seq (less_keep kx7) Sqa2
      have Sqa3 := Same.seq (less_keep kx7) Sqa3
      have k03 := k03.trans kx7
      have p3 := p3.same s7
      have Sqa4 : SqL K (less p H7) qa4 (((ls).drop a).map V.str) := SqL.of (less_at nqa4 v7)
      refine ⟨qa3, qa4, _, _, rfl, rfl, ((less_same _ _).seq Sqa3), ((less_same _ _).seq Sqa4), by (rw [List.length_map, List.length_map, sizeLine_eq]; simp only [List.length_append, List.length_take, List.length_drop, List.length_cons, List.length_nil]; omega), fun qa5 hqa5 => ?_⟩
      generalize e8 : upd H7 qa5 _ = H8
      have s8 := al_s e8 hqa5
      have v8 := al_v e8
      clear e8
      rw [← List.map_append] at v8
      have nqa5 : qa5 ≠ p := p3.ne hqa5
      have kx8 : Keep p H7 H8 := Keep.of s8
      have Sl := Same.seq (less_keep kx8) Sl
      have Sqa1 := Same.seq (less_keep kx8) Sqa1
      have Sqa2 := Same.seq (less_keep kx8) Sqa2
      have Sqa3 := Same.seq (less_keep kx8) Sqa3
      have Sqa4 := Same.seq (less_keep kx8) Sqa4
      have k03 := k03.trans kx8
      have p3 := p3.same s8
      have Sqa5 : SqL K (less p H8) qa5 ((((ls).take a ++ [("" : Str)]) ++ (ls).drop a).map V.str) := SqL.of (less_at nqa5 v8)
      refine kk _ qa5 (((ls).take a ++ [("" : Str)]) ++ (ls).drop a) k03 (p3.mono (by omega)) Sqa5 (by simp only [List.length_append, List.length_take, List.length_drop, List.length_cons, List.length_nil]; omega) (mem_ap (mem_ap (mem_tk o1) (mem_on oe)) (mem_dr o1))
    refine ⟨_, rfl, rfl, _, rfl, ?_⟩
    refine ite2 (fun _ => ?_) (fun _ => ?_)
    · refine ⟨_, rfl, _, rfl, _, rfl, l, _, rfl, ((less_same _ _).seq Sl), fun qa1 hqa1 => ?_⟩
      generalize e4 : upd H3 qa1 _ = H4
      have s4 := al_s e4 hqa1
      have v4 := al_v e4
      clear e4
      rw [cut_to, ← List.map_take] at v4
      have nqa1 : qa1 ≠ p := p3.ne hqa1
      have kx4 : Keep p H3 H4 := Keep.of s4
      have Sl := Same.seq (less_keep kx4) Sl
      have k03 := k03.trans kx4
      have p3 := p3.same s4
      have Sqa1 : SqL K (less p H4) qa1 (((ls).take b).map V.str) := SqL.of (less_at nqa1 v4)
      refine ⟨_, rfl, _, rfl, l, _, _, _, rfl, rfl, ((less_same _ _).seq Sl), wd_at ha, by show 1 ≤ sizeLine; decide, fun qa2 hqa2 => ?_⟩
      generalize e5 : upd H4 qa2 _ = H5
      have s5 := al_s e5 hqa2
      have v5 := al_v e5
      clear e5
      have nqa2 : qa2 ≠ p := p3.ne hqa2
      have kx5 : Keep p H4 H5 := Keep.of s5
      have Sl := Same.seq (less_keep kx5) Sl
      have Sqa1 := Same.seq (less_keep kx5) Sqa1
      have k03 := k03.trans kx5
      have p3 := p3.same s5
      have Sqa2 : SqL K (less p H5) qa2 (([wd (ls) a]).map V.str) := SqL.of (less_at nqa2 v5)
      refine ⟨qa1, qa2, _, _, rfl, rfl, ((less_same _ _).seq Sqa1), ((less_same _ _).seq Sqa2), by (rw [List.length_map, List.length_map, sizeLine_eq]; simp only [List.length_append, List.length_take, List.length_drop, List.length_cons, List.length_nil]; omega), fun qa3 hqa3 => ?_⟩
      generalize e6 : upd H5 qa3 _ = H6
      have s6 := al_s e6 hqa3
      have v6 := al_v e6
      clear e6
      rw [← List.map_append] at v6
      have nqa3 : qa3 ≠ p := p3.ne hqa3
      have kx6 : Keep p H5 H6 := Keep.of s6
      have Sl := Same.seq (less_keep kx6) Sl
      have Sqa1 := Same.seq (less_keep kx6) Sqa1
      have Sqa2 := Same.seq (less_keep kx6) Sqa2
      have k03 := k03.trans kx6
      have p3 := p3.same s6
      have Sqa3 : SqL K (less p H6) qa3 (((ls).take b ++ [wd (ls) a]).map V.str) := SqL.of (less_at nqa3 v6)
      refine ⟨_, rfl, _, rfl, _, rfl, l, _, rfl, ((less_same _ _).seq Sl), fun qa4 hqa4 => ?_⟩
      generalize e7 : upd H6 qa4 _ = H7
      have s7 := al_s e7 hqa4
      have v7 := al_v e7
      clear e7
      rw [cut_from, ← List.map_drop] at v7
      have nqa4 : qa4 ≠ p := p3.ne hqa4
      have kx7 : Keep p H6 H7 := Keep.of s7
      have Sl := Same.seq (less_keep kx7) Sl
      have Sqa1 := Same.seq (less_keep kx7) Sqa1
      have Sqa2 := Same.seq (less_keep kx7) Sqa2
      have Sqa3 := Same.seq (less_keep kx7) Sqa3
      have k03 := k03.trans kx7
      have p3 := p3.same s7
      have Sqa4 : SqL K (less p H7) qa4 (((ls).drop b).map V.str) := SqL.of (less_at nqa4 v7)
      refine ⟨qa3, qa4, _, _, rfl, rfl, ((less_same _ _).seq Sqa3), ((less_same _ _).seq Sqa4), by (rw [List.length_map, List.length_map, sizeLine_eq]; simp only [List.length_append, List.length_take, List.length_drop, List.length_cons, List.length_nil]; omega), fun qa5 hqa5 => ?_⟩
      generalize e8 : upd H7 qa5 _ = H8
      have s8 := al_s e8 hqa5
      have v8 := al_v e8
      clear e8
      rw [← List.map_append] at v8
      have nqa5 : qa5 ≠ p := p3.ne hqa5
      have kx8 : Keep p H7 H8 := Keep.of s8
      have Sl := Same.seq (less_keep kx8) Sl
      have Sqa1 := Same.seq (less_keep kx8) Sqa1
      have Sqa2 := Same.seq (less_keep kx8) Sqa2
      have Sqa3 := Same.seq (less_keep kx8) Sqa3
      have Sqa4 := Same.seq (less_keep kx8) Sqa4
      have k03 := k03.trans kx8
      have p3 := p3.same s8
      have Sqa5 : SqL K (less p H8) qa5 ((((ls).take b ++ [wd (ls) a]) ++ (ls).drop b).map V.str) := SqL.of (less_at nqa5 v8)
      refine kk _ qa5 (((ls).take b ++ [wd (ls) a]) ++ (ls).drop b) k03 (p3.mono (by omega)) Sqa5 (by simp only [List.length_append, List.length_take, List.length_drop, List.length_cons, List.length_nil]; omega) (mem_ap (mem_ap (mem_tk o1) (mem_on oa)) (mem_dr o1))
    refine ⟨_, rfl, rfl, _, rfl, ?_⟩
    refine ite2 (fun _ => ?_) (fun _ => ?_)
    · refine ⟨_, rfl, _, rfl, _, rfl, l, _, rfl, ((less_same _ _).seq Sl), fun qa1 hqa1 => ?_⟩
      generalize e4 : upd H3 qa1 _ = H4
      have s4 := al_s e4 hqa1
      have v4 := al_v e4
      clear e4
      rw [cut_to, ← List.map_take] at v4
      have nqa1 : qa1 ≠ p := p3.ne hqa1
      have kx4 : Keep p H3 H4 := Keep.of s4
      have Sl := Same.seq (less_keep kx4) Sl
      have k03 := k03.trans kx4
      have p3 := p3.same s4
      have Sqa1 : SqL K (less p H4) qa1 (((ls).take a).map V.str) := SqL.of (less_at nqa1 v4)
      refine ⟨_, rfl, _, rfl, _, _, rfl, rfl, _, rfl, l, _, rfl, ((less_same _ _).seq Sl), fun qa2 hqa2 => ?_⟩
      generalize e5 : upd H4 qa2 _ = H5
      have s5 := al_s e5 hqa2
      have v5 := al_v e5
      clear e5
      rw [show ((a : Int) + 1) = ((a + 1 : Nat) : Int) from rfl, cut_from, ← List.map_drop] at v5
      have nqa2 : qa2 ≠ p := p3.ne hqa2
      have kx5 : Keep p H4 H5 := Keep.of s5
      have Sl := Same.seq (less_keep kx5) Sl
      have Sqa1 := Same.seq (less_keep kx5) Sqa1
      have k03 := k03.trans kx5
      have p3 := p3.same s5
      have Sqa2 : SqL K (less p H5) qa2 (((ls).drop (a + 1)).map V.str) := SqL.of (less_at nqa2 v5)
      refine ⟨qa1, qa2, _, _, rfl, rfl, ((less_same _ _).seq Sqa1), ((less_same _ _).seq Sqa2), by (rw [List.length_map, List.length_map, sizeLine_eq]; simp only [List.length_append, List.length_take, List.length_drop, List.length_cons, List.length_nil]; omega), fun qa3 hqa3 => ?_⟩
      generalize e6 : upd H5 qa3 _ = H6
      have s6 := al_s e6 hqa3
      have v6 := al_v e6
      clear e6
      rw [← List.map_append] at v6
      have nqa3 : qa3 ≠ p := p3.ne hqa3
      have kx6 : Keep p H5 H6 := Keep.of s6
      have Sl := Same.seq (less_keep kx6) Sl
      have Sqa1 := Same.seq (less_keep kx6) Sqa1
      have Sqa2 := Same.seq (less_keep kx6) Sqa2
      have k03 := k03.trans kx6
      have p3 := p3.same s6
      have Sqa3 : SqL K (less p H6) qa3 (((ls).take a ++ (ls).drop (a + 1)).map V.str) := SqL.of (less_at nqa3 v6)
      have o2 : ∀ z ∈ (ls).take a ++ (ls).drop (a + 1), LnS (2 * Mx + 30) z := mem_ap (mem_tk o1) (mem_dr o1)
      refine ⟨_, rfl, _, rfl, _, rfl, qa3, _, rfl, ((less_same _ _).seq Sqa3), fun qa4 hqa4 => ?_⟩
      generalize e7 : upd H6 qa4 _ = H7
      have s7 := al_s e7 hqa4
      have v7 := al_v e7
      clear e7
      rw [cut_to, ← List.map_take] at v7
      have nqa4 : qa4 ≠ p := p3.ne hqa4
      have kx7 : Keep p H6 H7 := Keep.of s7
      have Sl := Same.seq (less_keep kx7) Sl
      have Sqa1 := Same.seq (less_keep kx7) Sqa1
      have Sqa2 := Same.seq (less_keep kx7) Sqa2
      have Sqa3 := Same.seq (less_keep kx7) Sqa3
      have k03 := k03.trans kx7
      have p3 := p3.same s7
      have Sqa4 : SqL K (less p H7) qa4 ((((ls).take a ++ (ls).drop (a + 1)).take b).map V.str) := SqL.of (less_at nqa4 v7)
      refine ⟨_, rfl, _, rfl, l, _, _, _, rfl, rfl, ((less_same _ _).seq Sl), wd_at ha, by show 1 ≤ sizeLine; decide, fun qa5 hqa5 => ?_⟩
      generalize e8 : upd H7 qa5 _ = H8
      have s8 := al_s e8 hqa5
      have v8 := al_v e8
      clear e8
      have nqa5 : qa5 ≠ p := p3.ne hqa5
      have kx8 : Keep p H7 H8 := Keep.of s8
      have Sl := Same.seq (less_keep kx8) Sl
      have Sqa1 := Same.seq (less_keep kx8) Sqa1
      have Sqa2 := Same.seq (less_keep kx8) Sqa2
      have Sqa3 := Same.seq (less_keep kx8) Sqa3
      have Sqa4 := Same.seq (less_keep kx8) Sqa4
      have k03 := k03.trans kx8
      have p3 := p3.same s8
      have Sqa5 : SqL K (less p H8) qa5 (([wd (ls) a]).map V.str) := SqL.of (less_at nqa5 v8)
      refine ⟨qa4, qa5, _, _, rfl, rfl, ((less_same _ _).seq Sqa4), ((less_same _ _).seq Sqa5), by (rw [List.length_map, List.length_map, sizeLine_eq]; simp only [List.length_append, List.length_take, List.length_drop, List.length_cons, List.length_nil]; omega), fun qa6 hqa6 => ?_⟩
      generalize e9 : upd H8 qa6 _ = H9
      have s9 := al_s e9 hqa6
      have v9 := al_v e9
      clear e9
      rw [← List.map_append] at v9
      have nqa6 : qa6 ≠ p := p3.ne hqa6
      have kx9 : Keep p H8 H9 := Keep.of s9
      have Sl := Same.seq (less_keep kx9) Sl
      have Sqa1 := Same.seq (less_keep kx9) Sqa1
      have Sqa2 := Same.seq (less_keep kx9) Sqa2
      have Sqa3 := Same.seq (less_keep kx9) Sqa3
      have Sqa4 := Same.seq (less_keep kx9) Sqa4
      have Sqa5 := Same.seq (less_keep kx9) Sqa5
      have k03 := k03.trans kx9
      have p3 := p3.same s9
      have Sqa6 : SqL K (less p H9) qa6 (((((ls).take a ++ (ls).drop (a + 1)).take b) ++ [wd (ls) a]).map V.str) := SqL.of (less_at nqa6 v9)
      refine ⟨_, rfl, _, rfl, _, rfl, qa3, _, rfl, ((less_same _ _).seq Sqa3), fun qa7 hqa7 => ?_⟩
      generalize e10 : upd H9 qa7 _ = H10
      have s10 := al_s e10 hqa7
      have v10 := al_v e10
      clear e10
      rw [cut_from, ← List.map_drop] at v10
      have nqa7 : qa7 ≠ p := p3.ne hqa7
      have kx10 : Keep p H9 H10 := Keep.of s10
      have Sl := Same.seq (less_keep kx10) Sl
      have Sqa1 := Same.seq (less_keep kx10) Sqa1
      have Sqa2 := Same.seq (less_keep kx10) Sqa2
      have Sqa3 := Same.seq (less_keep kx10) Sqa3
      have Sqa4 := Same.seq (less_keep kx10) Sqa4
      have Sqa5 := Same.seq (less_keep kx10) Sqa5
      have Sqa6 := Same.seq (less_keep kx10) Sqa6
      have k03 := k03.trans kx10
      have p3 := p3.same s10
      have Sqa7 : SqL K (less p H10) qa7 ((((ls).take a ++ (ls).drop (a + 1)).drop b).map V.str) := SqL.of (less_at nqa7 v10)
      refine ⟨qa6, qa7, _, _, rfl, rfl, ((less_same _ _).seq Sqa6), ((less_same _ _).seq Sqa7), by (rw [List.length_map, List.length_map, sizeLine_eq]; simp only [List.length_append, List.length_take, List.length_drop, List.length_cons, List.length_nil]; omega), fun qa8 hqa8 => ?_⟩
      generalize e11 : upd H10 qa8 _ = H11
      have s11 := al_s e11 hqa8
      have v11 := al_v e11
      clear e11
      rw [← List.map_append] at v11
      have nqa8 : qa8 ≠ p := p3.ne hqa8
      have kx11 : Keep p H10 H11 := Keep.of s11
      have Sl := Same.seq (less_keep kx11) Sl
      have Sqa1 := Same.seq (less_keep kx11) Sqa1
      have Sqa2 := Same.seq (less_keep kx11) Sqa2
      have Sqa3 := Same.seq (less_keep kx11) Sqa3
      have Sqa4 := Same.seq (less_keep kx11) Sqa4
      have Sqa5 := Same.seq (less_keep kx11) Sqa5
      have Sqa6 := Same.seq (less_keep kx11) Sqa6
      have Sqa7 := Same.seq (less_keep kx11) Sqa7
      have k03 := k03.trans kx11
      have p3 := p3.same s11
      have Sqa8 : SqL K (less p H11) qa8 ((((((ls).take a ++ (ls).drop (a + 1)).take b) ++ [wd (ls) a]) ++ ((ls).take a ++ (ls).drop (a + 1)).drop b).map V.str) := SqL.of (less_at nqa8 v11)
      refine kk _ qa8 (((((ls).take a ++ (ls).drop (a + 1)).take b) ++ [wd (ls) a]) ++ ((ls).take a ++ (ls).drop (a + 1)).drop b) k03 (p3.mono (by omega)) Sqa8 (by simp only [List.length_append, List.length_take, List.length_drop, List.length_cons, List.length_nil]; omega) (mem_ap (mem_ap (mem_tk o2) (mem_on oa)) (mem_dr o2))
    refine ⟨_, rfl, rfl, _, rfl, ?_⟩
    refine ite2 (fun _ => ?_) (fun _ => ?_)
    · refine ⟨_, rfl, _, rfl, _, rfl, l, _, rfl, ((less_same _ _).seq Sl), fun qa1 hqa1 => ?_⟩
      generalize e4 : upd H3 qa1 _ = H4
      have s4 := al_s e4 hqa1
      have v4 := al_v e4
      clear e4
      rw [cut_to, ← List.map_take] at v4
      have nqa1 : qa1 ≠ p := p3.ne hqa1
      have kx4 : Keep p H3 H4 := Keep.of s4
      have Sl := Same.seq (less_keep kx4) Sl
      have k03 := k03.trans kx4
      have p3 := p3.same s4
      have Sqa1 : SqL K (less p H4) qa1 (((ls).take a).map V.str) := SqL.of (less_at nqa1 v4)
      refine ⟨_, rfl, _, rfl, p, l, _, rfl, p3, by omega, fun H5 qm zm k5 p5 Sm lm om => ?_⟩
      have Sl := Same.seq (less_keep k5) Sl
      have Sqa1 := Same.seq (less_keep k5) Sqa1
      have k03 := k03.trans k5
      have p3 := p5
      refine ⟨qa1, qm, _, _, rfl, rfl, ((less_same _ _).seq Sqa1), ((less_same _ _).seq Sm), by (rw [List.length_map, List.length_map, sizeLine_eq]; simp only [List.length_append, List.length_take, List.length_drop, List.length_cons, List.length_nil]; omega), fun qa2 hqa2 => ?_⟩
      generalize e6 : upd H5 qa2 _ = H6
      have s6 := al_s e6 hqa2
      have v6 := al_v e6
      clear e6
      rw [← List.map_append] at v6
      have nqa2 : qa2 ≠ p := p3.ne hqa2
      have kx6 : Keep p H5 H6 := Keep.of s6
      have Sl := Same.seq (less_keep kx6) Sl
      have Sqa1 := Same.seq (less_keep kx6) Sqa1
      have Sm := Same.seq (less_keep kx6) Sm
      have k03 := k03.trans kx6
      have p3 := p3.same s6
      have Sqa2 : SqL K (less p H6) qa2 (((ls).take a ++ zm).map V.str) := SqL.of (less_at nqa2 v6)
      refine ⟨_, rfl, _, rfl, _, rfl, l, _, rfl, ((less_same _ _).seq Sl), fun qa3 hqa3 => ?_⟩
      generalize e7 : upd H6 qa3 _ = H7
      have s7 := al_s e7 hqa3
      have v7 := al_v e7
      clear e7
      rw [cut_from, ← List.map_drop] at v7
      have nqa3 : qa3 ≠ p := p3.ne hqa3
      have kx7 : Keep p H6 H7 := Keep.of s7
      have Sl := Same.seq (less_keep kx7) Sl
      have Sqa1 := Same.seq (less_keep kx7) Sqa1
      have Sm := Same.seq (less_keep kx7) Sm
      have Sqa2 := Same.seq (less_keep kx7) Sqa2
      have k03 := k03.trans kx7
      have p3 := p3.same s7
      have Sqa3 : SqL K (less p H7) qa3 (((ls).drop a).map V.str) := SqL.of (less_at nqa3 v7)
      refine ⟨qa2, qa3, _, _, rfl, rfl, ((less_same _ _).seq Sqa2), ((less_same _ _).seq Sqa3), by (rw [List.length_map, List.length_map, sizeLine_eq]; simp only [List.length_append, List.length_take, List.length_drop, List.length_cons, List.length_nil]; omega), fun qa4 hqa4 => ?_⟩
      generalize e8 : upd H7 qa4 _ = H8
      have s8 := al_s e8 hqa4
      have v8 := al_v e8
      clear e8
      rw [← List.map_append] at v8
      have nqa4 : qa4 ≠ p := p3.ne hqa4
      have kx8 : Keep p H7 H8 := Keep.of s8
      have Sl := Same.seq (less_keep kx8) Sl
      have Sqa1 := Same.seq (less_keep kx8) Sqa1
      have Sm := Same.seq (less_keep kx8) Sm
      have Sqa2 := Same.seq (less_keep kx8) Sqa2
      have Sqa3 := Same.seq (less_keep kx8) Sqa3
      have k03 := k03.trans kx8
      have p3 := p3.same s8
      have Sqa4 : SqL K (less p H8) qa4 ((((ls).take a ++ zm) ++ (ls).drop a).map V.str) := SqL.of (less_at nqa4 v8)
      refine kk _ qa4 (((ls).take a ++ zm) ++ (ls).drop a) k03 (p3.mono (by omega)) Sqa4 (by simp only [List.length_append, List.length_take, List.length_drop, List.length_cons, List.length_nil]; omega) (mem_ap (mem_ap (mem_tk o1) (fun z hz => (om z hz).mono (by omega))) (mem_dr o1))
    · refine ⟨_, rfl, _, rfl, _, rfl, l, _, rfl, ((less_same _ _).seq Sl), fun qa1 hqa1 => ?_⟩
      generalize e4 : upd H3 qa1 _ = H4
      have s4 := al_s e4 hqa1
      have v4 := al_v e4
      clear e4
      rw [cut_to, ← List.map_take] at v4
      have nqa1 : qa1 ≠ p := p3.ne hqa1
      have kx4 : Keep p H3 H4 := Keep.of s4
      have Sl := Same.seq (less_keep kx4) Sl
      have k03 := k03.trans kx4
      have p3 := p3.same s4
      have Sqa1 : SqL K (less p H4) qa1 (((ls).take a).map V.str) := SqL.of (less_at nqa1 v4)
      refine ⟨_, rfl, _, rfl, _, rfl, l, _, _, _, rfl, rfl, ((less_same _ _).seq Sl), wd_at ha, p, _, Mx, wd ls a, rfl, p3, by omega, hls _ (wd_mem ha), hM, fun H5 y k5 p5 hy => ?_⟩
      have Sl := Same.seq (less_keep k5) Sl
      have Sqa1 := Same.seq (less_keep k5) Sqa1
      have k03 := k03.trans k5
      have p3 := p5
      refine ⟨by show 1 ≤ sizeLine; decide, fun qa2 hqa2 => ?_⟩
      generalize e6 : upd H5 qa2 _ = H6
      have s6 := al_s e6 hqa2
      have v6 := al_v e6
      clear e6
      have nqa2 : qa2 ≠ p := p3.ne hqa2
      have kx6 : Keep p H5 H6 := Keep.of s6
      have Sl := Same.seq (less_keep kx6) Sl
      have Sqa1 := Same.seq (less_keep kx6) Sqa1
      have k03 := k03.trans kx6
      have p3 := p3.same s6
      have Sqa2 : SqL K (less p H6) qa2 (([y]).map V.str) := SqL.of (less_at nqa2 v6)
      refine ⟨qa1, qa2, _, _, rfl, rfl, ((less_same _ _).seq Sqa1), ((less_same _ _).seq Sqa2), by (rw [List.length_map, List.length_map, sizeLine_eq]; simp only [List.length_append, List.length_take, List.length_drop, List.length_cons, List.length_nil]; omega), fun qa3 hqa3 => ?_⟩
      generalize e7 : upd H6 qa3 _ = H7
      have s7 := al_s e7 hqa3
      have v7 := al_v e7
      clear e7
      rw [← List.map_append] at v7
      have nqa3 : qa3 ≠ p := p3.ne hqa3
      have kx7 : Keep p H6 H7 := Keep.of s7
      have Sl := Same.seq (less_keep kx7) Sl
      have Sqa1 := Same.seq (less_keep kx7) Sqa1
      have Sqa2 := Same.seq (less_keep kx7) Sqa2
      have k03 := k03.trans kx7
      have p3 := p3.same s7
      have Sqa3 : SqL K (less p H7) qa3 (((ls).take a ++ [y]).map V.str) := SqL.of (less_at nqa3 v7)
      refine ⟨_, rfl, _, rfl, _, _, rfl, rfl, _, rfl, l, _, rfl, ((less_same _ _).seq Sl), fun qa4 hqa4 => ?_⟩
      generalize e8 : upd H7 qa4 _ = H8
      have s8 := al_s e8 hqa4
      have v8 := al_v e8
      clear e8
      rw [show ((a : Int) + 1) = ((a + 1 : Nat) : Int) from rfl, cut_from, ← List.map_drop] at v8
      have nqa4 : qa4 ≠ p := p3.ne hqa4
      have kx8 : Keep p H7 H8 := Keep.of s8
      have Sl := Same.seq (less_keep kx8) Sl
      have Sqa1 := Same.seq (less_keep kx8) Sqa1
      have Sqa2 := Same.seq (less_keep kx8) Sqa2
      have Sqa3 := Same.seq (less_keep kx8) Sqa3
      have k03 := k03.trans kx8
      have p3 := p3.same s8
      have Sqa4 : SqL K (less p H8) qa4 (((ls).drop (a + 1)).map V.str) := SqL.of (less_at nqa4 v8)
      refine ⟨qa3, qa4, _, _, rfl, rfl, ((less_same _ _).seq Sqa3), ((less_same _ _).seq Sqa4), by (rw [List.length_map, List.length_map, sizeLine_eq]; simp only [List.length_append, List.length_take, List.length_drop, List.length_cons, List.length_nil]; omega), fun qa5 hqa5 => ?_⟩
      generalize e9 : upd H8 qa5 _ = H9
      have s9 := al_s e9 hqa5
      have v9 := al_v e9
      clear e9
      rw [← List.map_append] at v9
      have nqa5 : qa5 ≠ p := p3.ne hqa5
      have kx9 : Keep p H8 H9 := Keep.of s9
      have Sl := Same.seq (less_keep kx9) Sl
      have Sqa1 := Same.seq (less_keep kx9) Sqa1
      have Sqa2 := Same.seq (less_keep kx9) Sqa2
      have Sqa3 := Same.seq (less_keep kx9) Sqa3
      have Sqa4 := Same.seq (less_keep kx9) Sqa4
      have k03 := k03.trans kx9
      have p3 := p3.same s9
      have Sqa5 : SqL K (less p H9) qa5 ((((ls).take a ++ [y]) ++ (ls).drop (a + 1)).map V.str) := SqL.of (less_at nqa5 v9)
      refine kk _ qa5 (((ls).take a ++ [y]) ++ (ls).drop (a + 1)) k03 (p3.mono (by omega)) Sqa5 (by simp only [List.length_append, List.length_take, List.length_drop, List.length_cons, List.length_nil]; omega) (mem_ap (mem_ap (mem_tk o1) (mem_on hy)) (mem_dr o1))
end
end Ow

/-! law k03: _law_outcome, _law_reading -/
namespace Ow
open PySem PySem.Spec L2 TL
def spOut (K : PySem.W.Frag) : Sp := fun vs H Q _ => ∃ v : V, vs = [v] ∧
  ((∃ z, v = .str z ∧ z.length ≤ 100000 ∧ Short (linesIn z) ∧ (∀ i : Nat, readT (named (linesIn z)) (linesIn z) [] 0 = .error i → ∀ H' q, Same H H' → H' q = some (.tup [.str ("refused" : Str), .int (i : Int)]) → Q (.ref q) H') ∧
    ∀ ts, readT (named (linesIn z)) (linesIn z) [] 0 = .ok ts → ∀ H' q x, Same H H' → H' q = some (.tup [.str ("made" : Str), .ref x]) → SchAt K H' x z ts → Q (.ref q) H') ∨
   ∃ d, Dp K H v d ∧ isSt d = false ∧ ∀ H' q, Same H H' → H' q = some (.tup [.str ("refused" : Str), .int (-1)]) → Q (.ref q) H')
theorem same_made {H : Hp} {x dx C : Addr} (hx : H x = none) (hd : H dx = none) : Same H (upd (upd H dx (.own x)) x (.ins C dx [])) := fun b o e => by
  rw [upd_ne (ne_of_none e hx), upd_ne (ne_of_none e hd)]
  exact e
/-- what the law's own reading has to say -/
def RdOk (r : Except Nat (List Tab)) (at_ : Int) (ns : List Str) (cols : List (List Str)) : Prop := match r with
  | .ok ts => at_ = -1 ∧ ns = ts.map Prod.fst ∧ cols = ts.map fun t => t.2.map Col.name
  | .error i => at_ = (i : Int)
def rowD (r : List Str) : PyData := .list (r.map PyData.str)
def spRdg (K : PySem.W.Frag) : Sp := fun vs H Q _ => ∃ (l : Addr) (ls : List Str), vs = [.ref l] ∧ SqL K H l (ls.map V.str) ∧ Short ls ∧
  ∀ H' q nl cl at_ (ns : List Str) (rows : List V) (cols : List (List Str)), Same H H' → H' q = some (.tup [.int at_, .ref nl, .ref cl]) → H' nl = some (.lst (ns.map V.str)) → H' cl = some (.lst rows) → DpAll K H' rows (cols.map rowD) →
    RdOk (readT (named ls) ls [] 0) at_ ns cols → (∀ z ∈ ns, isW z = true) → ns.length ≤ 5 → cols.length ≤ 5 → (∀ r ∈ cols, r.length ≤ 6 ∧ ∀ z ∈ r, isW z = true) → Q (.ref q) H'
/-- the rows of the columns -/
def Rows (H : Hp) (rs : List Addr) (ts : List Tab) : Prop := Paired (fun r (t : Tab) => H r = some (.lst ((t.2.map Col.name).map V.str))) rs ts
theorem Rows.upd {H : Hp} {p : Addr} {o : HO} : ∀ {rs : List Addr} {ts : List Tab}, Rows H rs ts → p ∉ rs → Rows (upd H p o) rs ts
  | _, _, .nil, _ => .nil
  | _, _, .cons r t, h => .cons (by rw [upd_ne (fun z => h (by rw [z]; exact List.mem_cons_self ..))]; exact r) (Rows.upd t fun z => h (List.mem_cons_of_mem _ z))
theorem Rows.same {H H' : Hp} (s : Same H H') : ∀ {rs : List Addr} {ts : List Tab}, Rows H rs ts → Rows H' rs ts
  | _, _, .nil => .nil
  | _, _, .cons r t => .cons (s _ _ r) (Rows.same s t)
theorem Rows.has {H : Hp} : ∀ {rs : List Addr} {ts : List Tab} {r : Addr}, Rows H rs ts → r ∈ rs → ∃ o, H r = some o
  | _, _, _, .nil, h => nomatch h
  | _, _, _, .cons r t, h => by
    rcases List.mem_cons.mp h with rfl | h
    · exact ⟨_, r⟩
    · exact Rows.has t h
theorem Rows.dp {K : PySem.W.Frag} {H : Hp} : ∀ {rs : List Addr} {ts : List Tab}, Rows H rs ts → DpAll K H (rs.map V.ref) ((ts.map fun t => t.2.map Col.name).map rowD)
  | _, _, .nil => .nil
  | _, _, .cons r t => .cons (dp_lst r (DpAll.strs _)) (Rows.dp t)
theorem Rows.app_inv {H : Hp} : ∀ {acc : List Tab} {t : Tab} {rs : List Addr}, Rows H rs (acc ++ [t]) → ∃ ra r, rs = ra ++ [r] ∧ Rows H ra acc ∧ H r = some (.lst ((t.2.map Col.name).map V.str))
  | [], t, _, .cons r .nil => ⟨[], _, rfl, .nil, r⟩
  | u :: acc, t, _, .cons r h => by
    obtain ⟨ra, r', rfl, h1, h2⟩ := Rows.app_inv h
    exact ⟨_ :: ra, r', rfl, .cons r h1, h2⟩
theorem Rows.snoc {H : Hp} {rs : List Addr} {ts : List Tab} {r : Addr} {t : Tab} (h : Rows H rs ts) (h1 : H r = some (.lst ((t.2.map Col.name).map V.str))) : Rows H (rs ++ [r]) (ts ++ [t]) := Paired.snoc h h1
/-- one step of the reading, by the law's words -/
theorem step_col {names : List Str} {acc : List Tab} {n : Str} {cs : List Col} {ws : List Str} (h0 : ¬ wd ws 0 = ("table" : Str)) : (lawCol ws names (cs.map Col.name) = false → stepT names (acc ++ [(n, cs)]) ws = none) ∧
    (lawCol ws names (cs.map Col.name) = true → cs.length ≤ 6 → ∃ c, c.name = wd ws 1 ∧ isW c.name = true ∧ cs.length ≠ 6 ∧ stepT names (acc ++ [(n, cs)]) ws = some (acc ++ [(n, cs ++ [c])])) := by
  have e0 : stepT names (acc ++ [(n, cs)]) ws = (colOf ws names).bind (addCol (acc ++ [(n, cs)])) := by
    unfold stepT
    rw [if_neg h0]
  unfold lawCol
  cases hc : colOf ws names with
  | none =>
    rw [hc] at e0
    exact ⟨fun _ => e0, fun z => nomatch z⟩
  | some c =>
    rw [hc] at e0
    have e0 : stepT names (acc ++ [(n, cs)]) ws = addCol (acc ++ [(n, cs)]) c := e0
    rw [List.length_map]
    constructor
    · intro z
      rw [e0]
      refine addCol_bad ?_
      by_cases c1 : c.name ∈ cs.map Col.name
      · exact .inl c1
      · by_cases c2 : cs.length = 6
        · exact .inr c2
        · simp [c1, c2] at z
    · intro z h6
      have c1 : c.name ∉ cs.map Col.name := fun q => by simp only [decide_eq_true q, Bool.not_true, Bool.false_and] at z; cases z
      have c2 : cs.length ≠ 6 := fun q => by simp only [decide_eq_true q, Bool.not_true, Bool.and_false] at z; cases z
      refine ⟨c, colOf_name hc, ?_, c2, by rw [e0]; exact addCol_app acc n cs c c1 (by omega)⟩
      rw [colOf_name hc]
      unfold colOf at hc
      split at hc
      · cases hc
      · rename_i q
        cases z : isW (wd ws 1) with
        | true => rfl
        | false => exact absurd (.inr (.inl z)) q
section
variable {P : Program} {w : World} {K : PySem.W.Frag} {mg : Str → Option Value} {base : Heap}
theorem sc_law_outcome : FnScope [("_law_text" : Str), ("_law_made" : Str), ("e" : Str)] [("_law_text" : Str)] (defScope s_law_outcome) := ⟨rfl, rfl, rfl, by decide +kernel, rfl, by decide +kernel, by decide +kernel⟩
theorem ok_out (D : TopD K mg "_law_outcome" s_law_outcome) (T : Blt mg) (M : ScC K mg) (S : ScS K mg) (C : ExF P K mg) (F_init : MtAtX P w K mg base "Schema" "__init__" [("self" : Str), ("text" : Str)] 4 (spInitX K)) : FnAt P w K mg base "_law_outcome" [("_law_text" : Str)] 6 (spOut K) := by
  refine fn_at D sc_law_outcome (fun _ _ _ _ _ _ us hl => match us, hl with | [_], _ => rfl) (fun vs H Q E h => ?_) (fun f cdv A outer s H vs Q E hr h => ?_)
  · obtain ⟨v, rfl, _⟩ := h
    rfl
  · obtain ⟨v, rfl, hv⟩ := h
    refine ⟨_, (pss_cons (ps_try_asN rfl rfl sc_law_outcome.nd takes0 (fun W pn xe tk _ => (pss_one (ps_set (i := 1) sc_law_outcome.nd rfl (Or.inl rfl) (pe_mkSK (K := K) F_init S.mak tk (hr.mono (by decide)) (by rfl) S.at_ (pa_cons (pv 0) pa_nil)))))
      (.cons (c := .ref (He.ga K "BadSchema")) (i := 2) ⟨by rfl, by decide, .inl C.gBadSchema⟩ rfl rfl (fun a oe cls d pn hz hf => (pss_one (ps_ret (pe_tup (pa_cons pe_str (pa_cons (pe_xf C.BadSchema.xf (C.BadSchema.no (by decide)) hz hf (pv 2)) pa_nil)))))) .nil))
      (pss_one (ps_ret (pe_tup (pa_cons pe_str (pa_cons (pv 1) pa_nil)))))), ?_⟩
    refine ⟨_, rfl, fun x dx hx hdx ne => ?_⟩
    have sm := same_made (C := He.ga K "Schema") hx hdx
    rcases hv with ⟨z, rfl, hz, hsh, kE, k⟩ | ⟨d, hd, hns, kE⟩
    · refine ⟨x, dx, _, rfl, upd_same, .inl ⟨z, rfl, hz, hsh, fun i hi H1 d1 s1 h1 => ⟨true, C.bb, fun _ a ha => ?_, fun z => nomatch z⟩, fun ts hrd H1 k1 sc => ⟨rfl, ?_⟩⟩⟩
      · refine ⟨_, rfl, rfl, rfl, d1, _, _, rfl, h1, rfl, by show 2 ≤ sizeLine; decide, fun q hq => ?_⟩
        exact kE i hi _ q (sm.trans (s1.trans (same_upd hq))) upd_same
      · have s1 : Same H H1 := Same.made hx hdx (fun b o e nb => k1 b o nb e)
        refine ⟨_, rfl, by show 2 ≤ sizeLine; decide, fun q hq => ?_⟩
        exact k ts hrd _ q x (s1.trans (same_upd hq)) upd_same (sc.same (same_upd hq))
    · refine ⟨x, dx, _, rfl, upd_same, .inr ⟨_, ty_dp (Dp.same sm _ _ hd), by rw [isi_str, hns], fun H1 d1 s1 h1 => ⟨true, C.bb, fun _ a ha => ?_, fun z => nomatch z⟩⟩⟩
      refine ⟨_, rfl, rfl, rfl, d1, _, _, rfl, h1, rfl, by show 2 ≤ sizeLine; decide, fun q hq => ?_⟩
      exact kE _ q (sm.trans (s1.trans (same_upd hq))) upd_same
theorem sc_law_reading : FnScope [("_law_lines_here" : Str), ("_law_split" : Str), ("_law_line" : Str), ("_law_known" : Str), ("_law_words" : Str), ("_law_names" : Str), ("_law_columns_here" : Str), ("_law_at" : Str), ("_law_last" : Str)] [("_law_lines_here" : Str)] (defScope s_law_reading) := ⟨rfl, rfl, rfl, by decide +kernel, rfl, by decide +kernel, by decide +kernel⟩
theorem ok_rdg (D : TopD K mg "_law_reading" s_law_reading) (T : Blt mg) (M : ScC K mg) (F_lw : FnAt P w K mg base "_law_is_word" [("_law_text" : Str)] 1 spIsW) (F_lc : FnAt P w K mg base "_law_is_column" [("_law_words" : Str), ("_law_known" : Str), ("_law_taken" : Str)] 2 (spLc K)) : FnAt P w K mg base "_law_reading" [("_law_lines_here" : Str)] 3 (spRdg K) := by
  refine fn_at D sc_law_reading (fun _ _ _ _ _ _ us hl => match us, hl with | [_], _ => rfl) (fun vs H Q E h => ?_) (fun f cdv A outer s H vs Q E hr h => ?_)
  · obtain ⟨l, ls, rfl, _⟩ := h
    rfl
  · obtain ⟨l, ls, rfl, hS, hsh, kk⟩ := h
    obtain ⟨fin, hrd⟩ : ∃ r, readT (named ls) ls [] 0 = r := ⟨_, rfl⟩
    rw [hrd] at kk
    refine ⟨_, (pss_cons (ps_setLc (i := 1) (own := [(("_law_line" : Str), 2)]) (by rfl) sc_law_reading.nd rfl rfl (sw_true rfl rfl rfl (by decide +kernel)) (pi_list (pv 0)) (blkOk_by (own := [(("_law_line" : Str), 2)]) (N := [("_law_lines_here" : Str), ("_law_split" : Str), ("_law_line" : Str), ("_law_known" : Str), ("_law_words" : Str), ("_law_names" : Str), ("_law_columns_here" : Str), ("_law_at" : Str), ("_law_last" : Str)]) (sc := defScope s_law_reading) (by decide +kernel)) (fun _ _ _ _ _ => pg_name (i := 2) sc_law_reading.nd rfl (Or.inl rfl)) (fun _ _ _ _ _ => pts_nil) (fun _ _ _ _ _ => (pe_split (pv 2) pe_str)))
      (pss_cons (ps_setLc (i := 3) (own := [(("_law_words" : Str), 4)]) (by rfl) sc_law_reading.nd rfl rfl (sw_true rfl rfl rfl (by decide +kernel)) (pi_list (pv 1)) (blkOk_by (own := [(("_law_words" : Str), 4)]) (N := [("_law_lines_here" : Str), ("_law_split" : Str), ("_law_line" : Str), ("_law_known" : Str), ("_law_words" : Str), ("_law_names" : Str), ("_law_columns_here" : Str), ("_law_at" : Str), ("_law_last" : Str)]) (sc := defScope s_law_reading) (by decide +kernel)) (fun _ _ _ _ _ => pg_name (i := 4) sc_law_reading.nd rfl (Or.inl rfl)) (fun _ _ _ _ _ => pts_one (PW.pt (pw_and (pt_cmpR op_eq (pe_callB (call_len_seqK (K := K)) (by rfl) T.len PySem.boot_len (pa_cons (pv 4) pa_nil)) pe_int (nomark _)) (pw_and (pt_cmpR op_eq (pe_ix (ix_listK (K := K)) (pv 4) pe_int (fun _ _ => rfl)) pe_str (nomark _)) (pw_and1 (pt_val (pe_fn F_lw (hr.mono (by decide)) (by rfl) (pa_cons (pe_ix (ix_listK (K := K)) (pv 4) pe_int (fun _ _ => rfl)) pa_nil)))))))) (fun _ _ _ _ _ => (pe_ix (ix_listK (K := K)) (pv 4) pe_int (fun _ _ => rfl))))
      (pss_cons (ps_par (i := 5) (j := 6) (by rfl) sc_law_reading.nd rfl rfl (by decide) rfl rfl (pa_cons (pe_lst pa_nil) (pa_cons (pe_lst pa_nil) pa_nil)) (by rfl))
      (pss_cons (ps_for PassesOwn.never rfl (pi_enum (by rfl) M.enumerate (pa_cons (pv 1) pa_nil)) (pg_tup rfl (pgs_cons (pg_name (i := 7) sc_law_reading.nd rfl (Or.inl rfl)) (pgs_cons (pg_name (i := 4) sc_law_reading.nd rfl (Or.inl rfl)) pgs_nil)))
      (pss_one (ps_if (pt_cmpR op_eq (pe_ix ix_list (pv 4) pe_int (fun _ _ => rfl)) pe_str (nomark _))
      (pss_cons (ps_if (PW.pt (pw_or (pt_cmpR op_ne (pe_callB call_len_seq (by rfl) T.len PySem.boot_len (pa_cons (pv 4) pa_nil)) pe_int (nomark _)) (pw_or (pt_not (pt_val (pe_fn F_lw (hr.mono (by decide)) (by rfl) (pa_cons (pe_ix ix_list (pv 4) pe_int (fun _ _ => rfl)) pa_nil)))) (pw_or (pt_cmpR op_in_seq (pe_ix ix_list (pv 4) pe_int (fun _ _ => rfl)) (pv 5) rfl) (pw_or1 (pt_cmpR op_eq (pe_callB call_len_seq (by rfl) T.len PySem.boot_len (pa_cons (pv 5) pa_nil)) pe_int (nomark _)))))))
      (pss_one (ps_ret (pe_tup (pa_cons (pv 7) (pa_cons (pv 5) (pa_cons (pv 6) pa_nil))))))
      pss_nil)
      (pss_cons (ps_expr (pe_bm PySem.F.plainAttrs_list PySem.F.slot_list_append PySem.F.type_list_append mt_append (pv 5) (pa_cons (pe_ix ix_list (pv 4) pe_int (fun _ _ => rfl)) pa_nil)))
      (pss_one (ps_expr (pe_bm PySem.F.plainAttrs_list PySem.F.slot_list_append PySem.F.type_list_append mt_append (pv 6) (pa_cons (pe_lst pa_nil) pa_nil))))))
      (pss_cons (ps_if (PW.pt (pw_or (pt_cmpR (op_eqD hr.units) (pv 5) (pe_lst pa_nil) (nomark _)) (pw_or1 (pt_not (pt_val (pe_fn F_lc (hr.mono (by decide)) (by rfl) (pa_cons (pv 4) (pa_cons (pv 3) (pa_cons (pe_ix ix_list (pv 6) (pe_un un_neg pe_int) (fun _ _ => rfl)) pa_nil)))))))))
      (pss_one (ps_ret (pe_tup (pa_cons (pv 7) (pa_cons (pv 5) (pa_cons (pv 6) pa_nil))))))
      pss_nil)
      (pss_cons (ps_set (i := 8) sc_law_reading.nd rfl (Or.inl rfl) (pe_ix ix_list (pv 6) (pe_un un_neg pe_int) (fun _ _ => rfl)))
      (pss_one (ps_expr (pe_bm PySem.F.plainAttrs_list PySem.F.slot_list_append PySem.F.type_list_append mt_append (pv 8) (pa_cons (pe_ix ix_list (pv 4) pe_int (fun _ _ => rfl)) pa_nil)))))))))
      (pss_one (ps_ret (pe_tup (pa_cons (pe_un un_neg pe_int) (pa_cons (pv 5) (pa_cons (pv 6) pa_nil)))))))))), ?_⟩
    have hlen := hsh.1
    have hS0 : DpAll K H (ls.map V.str) (ls.map PyData.str) := DpAll.strs ls
    refine ⟨_, rfl, l, rfl, ⟨_, hS⟩, fun sp hsp => ?_⟩
    refine lc_dat (K := K) (f := PyData.str) (l := ls) (fun z => some (rowD (wsOf z))) hsp hS hS0 ?_ ?_
    · intro i v z H' hv hx hd P
      have ev : v = .str z := by cases hd; rfl
      subst ev
      have hz := hsh.2 z (List.mem_of_getElem? hx)
      refine ⟨rfl, yes_ ⟨_, rfl, ⟨_, rfl⟩, z, _, rfl, rfl, by decide +kernel, by rw [sizeLine_eq]; omega, fun q hq => ?_⟩⟩
      exact P.step (by omega) (same_upd hq) hx rfl (dp_lst (vs := (wsOf z).map V.str) (less_at (P.ne hq) upd_same) (DpAll.strs _)) hsp
    intro H1 ys s1 h1 d1
    rw [fm_some] at d1
    have hyl := DpAll.len d1
    rw [List.length_map] at hyl
    have sG1 := less_same sp H1
    have pd1 : Paired (fun v z => Dp K (less sp H1) v (rowD (wsOf z))) ys ls := paired_of d1
    have wrd : ∀ {v : V} {z : Str}, Dp K (less sp H1) v (rowD (wsOf z)) → ∃ a, v = .ref a ∧ SqL K (less sp H1) a ((wsOf z).map V.str) := fun h => by
      obtain ⟨a, xs, rfl, hs, ha⟩ := Dp.lst_inv h
      rw [DpAll.strs_inv ha] at hs
      exact ⟨a, rfl, hs⟩
    refine ⟨_, rfl, sp, rfl, ⟨_, SqL.of h1⟩, fun kn hkn => ?_⟩
    refine lc_rel (K := K) (l := ls) (R0 := fun v z => Dp K (less sp H1) v (rowD (wsOf z))) (fun v z => v = V.str z) nmOf hkn (SqL.of h1) pd1 ?_ ?_
    · intro i v z H' hv hx hd P
      obtain ⟨a, rfl, ha⟩ := wrd hd
      have ha' := (sG1.trans P.same).seq ha
      have hz := hsh.2 z (List.mem_of_getElem? hx)
      have w0 : 0 < (wsOf z).length := List.length_pos_iff.mpr (ws_ne z)
      have bad : ∀ {H4 : Hp}, Same H' H4 → ((((wsOf z).length == 2) && ((wd (wsOf z) 0 == ("table" : Str)) && isW (wd (wsOf z) 1))) = false) → LcR (fun v z => v = V.str z) H1 kn ls nmOf (i + 1) H4 := fun s4 e => P.skip s4 hx (by unfold nmOf; rw [e]; rfl)
      refine ⟨rfl, _, rfl, a, _, rfl, .inl ha', rfl, _, rfl, ?_⟩
      by_cases c1 : (wsOf z).length = 2
      case neg => exact iteDF (fun q => c1 (by rw [List.length_map] at q; injection q with q; omega)) (iteF (bad (Same.refl _) (by rw [beq_false_of_ne c1]; rfl)))
      refine iteDT (by rw [List.length_map, c1]; rfl) ?_
      have w1 : 1 < (wsOf z).length := by omega
      refine ⟨_, rfl, a, _, _, _, rfl, rfl, ha', wd_at w0, rfl, _, rfl, ?_⟩
      by_cases c2 : wd (wsOf z) 0 = ("table" : Str)
      case neg => exact iteDF (fun q => c2 (by injection q)) (iteF (bad (Same.refl _) (by rw [beq_false_of_ne c2]; simp)))
      refine iteDT (by rw [c2]) ?_
      refine ⟨_, rfl, a, _, _, _, rfl, rfl, ha', wd_at w1, _, rfl, Nat.le_trans (ws_len (wd_mem w1)) hz, fun H4 s4 => ?_⟩
      cases c3 : isW (wd (wsOf z) 1) with
      | false => exact ⟨false, rfl, iteF (bad s4 (by rw [c3]; simp))⟩
      | true =>
        refine ⟨true, rfl, iteT ?_⟩
        refine ⟨_, rfl, a, _, _, _, rfl, rfl, s4.seq ha', wd_at w1, ?_⟩
        refine P.step (by omega) s4 hx ?_ rfl hkn
        unfold nmOf
        rw [c1, c2, c3]
        rfl
    intro H2 ys2 s2 h2 d2
    have e2 : ys2 = (named ls).map V.str := strs_of d2
    subst e2
    clear d2
    refine ⟨by show 0 ≤ sizeLine; decide, fun nl hnl => ?_⟩
    generalize e3 : upd H2 nl _ = H3
    have s3 := al_s e3 hnl
    have h3 := al_v e3
    clear e3
    refine ⟨by show 0 ≤ sizeLine; decide, fun cl hcl => ?_⟩
    generalize e4 : upd H3 cl _ = H4
    have s4 := al_s e4 hcl
    have h4 := al_v e4
    clear e4
    refine ⟨_, _, rfl, ?_⟩
    have s02 := s1.trans s2
    have s24 := s3.trans s4
    have ncl : nl ≠ cl := ne_of_none h3 hcl
    have hnl0 : H nl = none := s02.free hnl
    have hcl0 : H cl = none := (s02.trans s3).free hcl
    have hcl2 : H2 cl = none := s3.free hcl
    refine ⟨_, rfl, sp, _, rfl, SqL.of (s24 _ _ (s2 _ _ h1)), ?_⟩
    refine for_it (walk_enum (K := K) (a := sp) (xs := ys)) (fun i σ H' => ∃ (x2 x4 x7 x8 : Option V) (ts : List Tab) (rs : List Addr), σ = [some (.ref l), some (.ref sp), x2, some (.ref kn), x4, some (.ref nl), some (.ref cl), x7, x8] ∧ Same H2 H' ∧
        H' nl = some (.lst ((ts.map Prod.fst).map V.str)) ∧ H' cl = some (.lst (rs.map V.ref)) ∧ Rows H' rs ts ∧ rs.Nodup ∧ nl ∉ rs ∧ cl ∉ rs ∧ (∀ r ∈ rs, H2 r = none) ∧ readT (named ls) (ls.drop i) ts i = fin ∧ (∀ t ∈ ts, isW t.1 = true ∧ t.2.length ≤ 6 ∧ ∀ c ∈ t.2, isW c.name = true) ∧ ts.length ≤ 5)
      ⟨_, _, _, _, [], [], rfl, s24, s4 _ _ h3, h4, .nil, .nil, (by simp), (by simp), (by simp), hrd, (by simp), (by simp)⟩ (fun i σ H' _ ⟨_, _, _, _, _, _, _, s', _⟩ => SqL.of (s' _ _ (s2 _ _ h1))) ?_ ?_
    · rintro i v σ H5 H6 hi ⟨x2, x4, x7, x8, ts, rs, rfl, s5, hn5, hc5, rw5, nd5, nr5, cr5, fr5, rd5, ok5, few5⟩ ⟨tp, xi, xw, rfl, htp, rfl, e1, ew⟩
      cases e1
      obtain ⟨line, hx, hdw⟩ := Paired.get pd1 ew
      obtain ⟨aw, rfl, haw⟩ := wrd hdw
      have hlz := hsh.2 line (List.mem_of_getElem? hx)
      have hi2 : i < ls.length := (List.getElem?_eq_some_iff.mp hx).1
      have edr : ls.drop i = line :: ls.drop (i + 1) := by
        rw [List.drop_eq_getElem_cons hi2]
        rw [List.getElem?_eq_getElem hi2] at hx
        cases hx
        rfl
      rw [edr] at rd5
      unfold readT at rd5
      generalize e6 : upd H5 tp _ = H6
      have s6 := al_s e6 htp
      have h6 := al_v e6
      clear e6
      refine ⟨tp, _, rfl, SqT.of h6, rfl, _, _, rfl, _, _, rfl, rfl, ?_⟩
      have s26 := s5.trans s6
      have sG6 : Same (less sp H1) H6 := sG1.trans (s2.trans s26)
      have haw6 := sG6.seq haw
      have hn6 := s6 _ _ hn5
      have hc6 := s6 _ _ hc5
      have rw6 := rw5.same s6
      have w0 : 0 < (wsOf line).length := List.length_pos_iff.mpr (ws_ne line)
      -- the answer, where the line is wrong
      have wN : ∀ z ∈ ts.map Prod.fst, isW z = true := fun z hz => by
        obtain ⟨t, ht, rfl⟩ := List.mem_map.mp hz
        exact (ok5 t ht).1
      have bad : stepT (named ls) ts (wsOf line) = none → ∀ {H7 : Hp}, Same H6 H7 → ∀ q, H7 q = none → Q (.ref q) (upd H7 q (.tup [.int ((i : Nat) : Int), .ref nl, .ref cl])) := fun hst H7 s7 q hq => by
        rw [hst] at rd5
        have s8 := s7.trans (same_upd (o := .tup [.int ((i : Nat) : Int), .ref nl, .ref cl]) hq)
        refine kk _ q nl cl _ (ts.map Prod.fst) _ (ts.map fun t => t.2.map Col.name) (s02.trans (s26.trans s8)) upd_same (s8 _ _ hn6) (s8 _ _ hc6) (rw6.same s8).dp ?_ wN (by rw [List.length_map]; exact few5) (by rw [List.length_map]; exact few5) ?_
        · rw [← rd5]
          rfl
        · intro r hr
          obtain ⟨t, ht, rfl⟩ := List.mem_map.mp hr
          refine ⟨by rw [List.length_map]; exact (ok5 t ht).2.1, fun z hz => ?_⟩
          obtain ⟨c, hc, rfl⟩ := List.mem_map.mp hz
          exact (ok5 t ht).2.2 c hc
      refine ⟨_, rfl, aw, _, _, _, rfl, rfl, haw6, wd_at w0, rfl, _, rfl, ?_⟩
      by_cases c0 : wd (wsOf line) 0 = ("table" : Str)
      · refine iteDT (by rw [c0]) ?_
        have hst : stepT (named ls) ts (wsOf line) = if (wsOf line).length ≠ 2 ∨ isW (wd (wsOf line) 1) = false ∨ wd (wsOf line) 1 ∈ ts.map Prod.fst ∨ ts.length = 5 then none else some (ts ++ [(wd (wsOf line) 1, [])]) := by
          unfold stepT
          rw [if_pos c0]
        have bd : ((wsOf line).length ≠ 2 ∨ isW (wd (wsOf line) 1) = false ∨ wd (wsOf line) 1 ∈ ts.map Prod.fst ∨ ts.length = 5) → ∀ {H7 : Hp}, Same H6 H7 → ∀ q, H7 q = none → Q (.ref q) (upd H7 q (.tup [.int ((i : Nat) : Int), .ref nl, .ref cl])) := fun hc => bad (by rw [hst, if_pos hc])
        refine ⟨_, rfl, aw, _, rfl, .inl haw6, rfl, _, rfl, ?_⟩
        by_cases c1 : (wsOf line).length = 2
        case neg => exact iteNN (fun z => c1 (by rw [List.length_map] at z; injection z with z; omega)) (iteT ⟨_, rfl, _, rfl, _, rfl, by show 3 ≤ sizeLine; decide, bd (.inl c1) (Same.refl _)⟩)
        refine iteNS (by rw [List.length_map, c1]; rfl) ?_
        have w1 : 1 < (wsOf line).length := by omega
        refine ⟨_, rfl, aw, _, _, _, rfl, rfl, haw6, wd_at w1, _, rfl, Nat.le_trans (ws_len (wd_mem w1)) hlz, fun H7 s7 => ?_⟩
        cases c2 : isW (wd (wsOf line) 1) with
        | false => exact ⟨false, rfl, iteT (iteT ⟨_, rfl, _, rfl, _, rfl, by show 3 ≤ sizeLine; decide, bd (.inr (.inl c2)) s7⟩)⟩
        | true =>
        refine ⟨true, rfl, iteF ?_⟩
        have haw7 := s7.seq haw6
        have hn7 := s7 _ _ hn6
        have hc7 := s7 _ _ hc6
        refine ⟨_, rfl, aw, _, _, _, rfl, rfl, haw7, wd_at w1, _, rfl, nl, _, rfl, .inl (SqL.of hn7), rfl, flat_strs _, _, rfl, ?_⟩
        show if (inV (V.str (wd (wsOf line) 1)) ((ts.map Prod.fst).map V.str)) = true then _ else _
        rw [inV_str]
        by_cases c3 : wd (wsOf line) 1 ∈ ts.map Prod.fst
        case pos => exact iteDT c3 (iteT ⟨_, rfl, _, rfl, _, rfl, by show 3 ≤ sizeLine; decide, bd (.inr (.inr (.inl c3))) s7⟩)
        refine iteDF c3 ?_
        refine ⟨_, rfl, nl, _, rfl, .inl (SqL.of hn7), rfl, _, rfl, ?_⟩
        by_cases c4 : ts.length = 5
        case pos => exact iteDT (by rw [List.length_map, List.length_map, c4]; rfl) ⟨_, rfl, _, rfl, _, rfl, by show 3 ≤ sizeLine; decide, bd (.inr (.inr (.inr c4))) s7⟩
        refine iteDF (fun z => c4 (by rw [List.length_map, List.length_map] at z; injection z with z; omega)) ?_
        have nall : ¬ ((wsOf line).length ≠ 2 ∨ isW (wd (wsOf line) 1) = false ∨ wd (wsOf line) 1 ∈ ts.map Prod.fst ∨ ts.length = 5) := by
          rintro (z | z | z | z)
          · exact z c1
          · rw [c2] at z
            cases z
          · exact c3 z
          · exact c4 z
        rw [if_neg nall] at hst
        rw [hst] at rd5
        refine ⟨_, rfl, .inl ⟨rfl, _, SqL.of hn7⟩, _, rfl, aw, _, _, _, rfl, rfl, haw7, wd_at w1, nl, _, _, rfl, rfl, hn7, by rw [List.length_map, List.length_map, sizeLine_eq]; omega, ?_⟩
        have s27 := s26.trans s7
        have s28 : Same H2 (upd H7 nl (.lst ((ts.map Prod.fst).map V.str ++ [V.str (wd (wsOf line) 1)]))) := fun b o e => by
          rw [upd_ne (ne_of_none e hnl)]
          exact s27 _ _ e
        have hc8 : upd H7 nl (.lst ((ts.map Prod.fst).map V.str ++ [V.str (wd (wsOf line) 1)])) cl = some (.lst (rs.map V.ref)) := by rw [upd_ne ncl.symm]; exact hc7
        have rw8 := (rw6.same s7).upd (o := .lst ((ts.map Prod.fst).map V.str ++ [V.str (wd (wsOf line) 1)])) nr5
        refine ⟨_, rfl, .inl ⟨rfl, _, SqL.of hc8⟩, by show 0 ≤ sizeLine; decide, fun r hr => ?_⟩
        have nrn : nl ≠ r := ne_of_none upd_same hr
        have nrc : cl ≠ r := ne_of_none hc8 hr
        have nrr : r ∉ rs := fun z => by
          obtain ⟨o, e⟩ := rw8.has z
          rw [hr] at e
          cases e
        have rl : rs.length = ts.length := Paired.length rw5
        have hc9 : upd (upd H7 nl (.lst ((ts.map Prod.fst).map V.str ++ [V.str (wd (wsOf line) 1)]))) r (.lst []) cl = some (.lst (rs.map V.ref)) := by rw [upd_ne nrc]; exact hc8
        refine ⟨cl, _, _, rfl, rfl, hc9, by rw [List.length_map, sizeLine_eq]; omega, ?_⟩
        refine ⟨_, _, _, _, ts ++ [(wd (wsOf line) 1, [])], rs ++ [r], rfl, ?_, ?_, ?_, ?_, ?_, ?_, ?_, ?_, rd5, ?_, ?_⟩
        · intro b o e
          rw [upd_ne (ne_of_none e hcl2), upd_ne (ne_of_none (s28 _ _ e) hr)]
          exact s28 _ _ e
        · rw [upd_ne ncl, upd_ne nrn, upd_same, List.map_append, List.map_append]
          rfl
        · rw [upd_same, List.map_append]
          rfl
        · refine Rows.snoc ((rw8.upd nrr).upd cr5) ?_
          rw [upd_ne nrc.symm, upd_same]
          rfl
        · rw [List.nodup_append]
          refine ⟨nd5, by simp, fun x hx y hy e => ?_⟩
          rw [List.mem_singleton.mp hy] at e
          exact nrr (e ▸ hx)
        · intro z
          rcases List.mem_append.mp z with z | z
          · exact nr5 z
          · exact nrn (List.mem_singleton.mp z)
        · intro z
          rcases List.mem_append.mp z with z | z
          · exact cr5 z
          · exact nrc (List.mem_singleton.mp z)
        · intro x hx
          rcases List.mem_append.mp hx with z | z
          · exact fr5 x z
          · rw [List.mem_singleton.mp z]
            exact s28.free hr
        · intro t ht
          rcases List.mem_append.mp ht with z | z
          · exact ok5 t z
          · rw [List.mem_singleton.mp z]
            exact ⟨c2, by simp, by simp⟩
        · rw [List.length_append]
          simp
          omega
      · refine iteDF (fun z => c0 (by injection z)) ?_
        refine ⟨_, rfl, by show 0 ≤ sizeLine; decide, fun e0 he0 => ?_⟩
        generalize e7 : upd H6 e0 _ = H7
        have s7 := al_s e7 he0
        have h7 := al_v e7
        clear e7
        have shn : SeqAt.shaped (.list ((ts.map Prod.fst).map PyData.str)) = true := (Shp.lst (n := 0) (shp_strs fun z hz => strOk_word (wN z hz))).shaped (by decide)
        have shz : SeqAt.shaped (.list []) = true := (Shp.lst (n := 0) (ds := []) (by simp)).shaped (by decide)
        refine ⟨_, _, dp_lst (s7 _ _ hn6) (DpAll.strs _), dp_lst h7 .nil, shn, shz, _, rfl, ?_⟩
        rcases List.eq_nil_or_concat ts with rfl | ⟨acc, ⟨n, cs⟩, rfl⟩
        · rw [List.map_nil, List.map_nil, eqv_lst, eqvAll_nn]
          refine iteT (iteT ⟨_, rfl, _, rfl, _, rfl, by show 3 ≤ sizeLine; decide, bad ?_ s7⟩)
          unfold stepT
          rw [if_neg c0]
          cases colOf (wsOf line) (named ls) <;> rfl
        rw [List.concat_eq_append] at *
        have en : ∃ d ds, ((acc ++ [(n, cs)]).map Prod.fst).map PyData.str = d :: ds := by
          cases acc with
          | nil => exact ⟨_, _, rfl⟩
          | cons a acc => exact ⟨_, _, rfl⟩
        obtain ⟨d0, ds0, en⟩ := en
        rw [en, eqv_lst, eqvAll_cn]
        refine iteF ?_
        obtain ⟨ra, r, rfl, ra7, hr7⟩ := Rows.app_inv (rw6.same s7)
        have hc7 := s7 _ _ hc6
        have hn7 := s7 _ _ hn6
        have s67 : Same H2 H7 := s26.trans s7
        have ec7 : H7 cl = some (.lst (ra.map V.ref ++ [V.ref r])) := by rw [hc7, List.map_append]; rfl
        have haw7 := s7.seq haw6
        have f6 : cs.length ≤ 6 := (ok5 (n, cs) (by simp)).2.1
        obtain ⟨st1, st2⟩ := step_col (names := named ls) (acc := acc) (n := n) (cs := cs) (ws := wsOf line) c0
        refine ⟨_, rfl, _, rfl, _, rfl, 1, rfl, cl, _, _, _, rfl, rfl, SqL.of ec7, atI_last _ _, aw, kn, r, wsOf line, named ls, cs.map Col.name, rfl, haw7, SqL.of (s67 _ _ h2), SqL.of hr7, w0, (fun z hz => Nat.le_trans (ws_len hz) hlz), fun H8 s8 => ?_⟩
        cases hb : lawCol (wsOf line) (named ls) (cs.map Col.name) with
        | false => exact ⟨false, rfl, iteT ⟨_, rfl, _, rfl, _, rfl, by show 3 ≤ sizeLine; decide, bad (st1 hb) (s7.trans s8)⟩⟩
        | true =>
        obtain ⟨c, cn, cw, c6, hst⟩ := st2 hb f6
        have w1 : 1 < (wsOf line).length := by
          cases q : colOf (wsOf line) (named ls) with
          | none =>
            unfold lawCol at hb
            rw [q] at hb
            cases hb
          | some c' =>
            unfold colOf at q
            split at q
            · cases q
            · rename_i z
              exact Classical.byContradiction fun y => z (.inl (by omega))
        refine ⟨true, rfl, iteF ?_⟩
        rw [hst] at rd5
        have ec8 := s8 _ _ ec7
        have hr8 := s8 _ _ hr7
        refine ⟨_, rfl, 1, rfl, cl, _, _, _, rfl, rfl, SqL.of ec8, atI_last _ _, ?_⟩
        refine ⟨_, rfl, .inl ⟨rfl, _, SqL.of hr8⟩, _, rfl, aw, _, _, _, rfl, rfl, s8.seq haw7, wd_at w1, r, _, _, rfl, rfl, hr8, by rw [List.length_map, List.length_map, sizeLine_eq]; show cs.length < 16777216; omega, ?_⟩
        have rmem : r ∈ ra ++ [r] := by simp
        have nrn : nl ≠ r := fun z => nr5 (z ▸ rmem)
        have nrc : cl ≠ r := fun z => cr5 (z ▸ rmem)
        have s68 := s67.trans s8
        have rra : r ∉ ra := fun z => by
          rw [List.nodup_append] at nd5
          exact nd5.2.2 _ z _ (List.mem_singleton_self r) rfl
        refine ⟨_, _, _, _, acc ++ [(n, cs ++ [c])], ra ++ [r], rfl, ?_, ?_, ?_, ?_, nd5, nr5, cr5, fr5, rd5, ?_, ?_⟩
        · intro b o e
          rw [upd_ne (ne_of_none e (fr5 r rmem))]
          exact s68 _ _ e
        · rw [upd_ne nrn, s8 _ _ hn7]
          congr 3
          simp
        · rw [upd_ne nrc, s8 _ _ hc7]
        · refine Rows.snoc ((ra7.same s8).upd rra) ?_
          rw [upd_same, List.map_append, List.map_append, ← cn]
          rfl
        · intro t ht
          rcases List.mem_append.mp ht with z | z
          · exact ok5 t (List.mem_append_left _ z)
          · rw [List.mem_singleton.mp z]
            have o5 := ok5 (n, cs) (by simp)
            refine ⟨o5.1, by rw [List.length_append]; simp; omega, fun c' hc' => ?_⟩
            rcases List.mem_append.mp hc' with q | q
            · exact o5.2.2 c' q
            · rw [List.mem_singleton.mp q]
              exact cw
        · simpa using few5
    · rintro σ H5 ⟨x2, x4, x7, x8, ts, rs, rfl, s5, hn5, hc5, rw5, nd5, nr5, cr5, fr5, rd5, ok5, few5⟩
      have e : ys.length = ls.length := by omega
      rw [e, List.drop_length] at rd5
      unfold readT at rd5
      refine ⟨1, rfl, _, rfl, _, rfl, by show 3 ≤ sizeLine; decide, fun q hq => ?_⟩
      have s6 := same_upd (o := .tup [.int (-1), .ref nl, .ref cl]) hq
      refine kk _ q nl cl _ (ts.map Prod.fst) _ (ts.map fun t => t.2.map Col.name) (s02.trans (s5.trans s6)) upd_same (s6 _ _ hn5) (s6 _ _ hc5) (rw5.same s6).dp ?_ ?_ (by rw [List.length_map]; exact few5) (by rw [List.length_map]; exact few5) ?_
      · rw [← rd5]
        exact ⟨rfl, rfl, rfl⟩
      · intro z hz
        obtain ⟨t, ht, rfl⟩ := List.mem_map.mp hz
        exact (ok5 t ht).1
      · intro r hr
        obtain ⟨t, ht, rfl⟩ := List.mem_map.mp hr
        refine ⟨by rw [List.length_map]; exact (ok5 t ht).2.1, fun z hz => ?_⟩
        obtain ⟨c, hc, rfl⟩ := List.mem_map.mp hz
        exact (ok5 t ht).2.2 c hc
end
end Ow

/-! law k03: law -/
namespace Ow
open PySem PySem.Spec L2 TL
def mxl : Nat → Nat
  | 0 => 40
  | n + 1 => 2 * mxl n + 30
theorem mxl_le {j : Nat} (h : j ≤ 3) : mxl j ≤ 530 := by
  have q : ∀ j : Fin 4, mxl j.val ≤ 530 := by decide
  exact q ⟨j, by omega⟩
theorem mxl_le2 {j : Nat} (h : j < 3) : mxl j ≤ 250 := by
  have q : ∀ j : Fin 3, mxl j.val ≤ 250 := by decide
  exact q ⟨j, by omega⟩
theorem wt_le {l : List Str} {m : Nat} (h : ∀ z ∈ l, z.length ≤ m) : wt l ≤ l.length * (m + 1) := by
  have := sum_le h
  unfold wt
  rw [Nat.mul_add, Nat.mul_one]
  omega
/-- joined by line feeds and split again -/
theorem relines {zs : List Str} (h : ∀ z ∈ zs, 10 ∉ tl z) : linesIn (Txt.join ("\n" : Str) zs) = if zs = [] then [("" : Str)] else zs := by
  by_cases e : zs = []
  · rw [if_pos e, e]
    decide +kernel
  · rw [if_neg e]
    exact TL.split_join (s := 10) (S := []) (by decide +kernel) (by decide +kernel) e h
theorem relines1 {zs : List Str} (hne : 0 < zs.length) (h : ∀ z ∈ zs, 10 ∉ tl z) : linesIn (Txt.join ("\n" : Str) zs) = zs := by
  rw [relines h, if_neg (fun z => by rw [z] at hne; simp at hne)]
theorem read_nodup {names : List Str} : ∀ {ls : List Str} {ts fin : List Tab} {i : Nat}, readT names ls ts i = .ok fin → (ts.map Prod.fst).Nodup → (fin.map Prod.fst).Nodup
  | [], ts, fin, i, h, nd => by
    unfold readT at h
    cases h
    exact nd
  | l :: ls, ts, fin, i, h, nd => by
    unfold readT at h
    cases hs : stepT names ts (wsOf l) with
    | none =>
      rw [hs] at h
      cases h
    | some ts' =>
      rw [hs] at h
      refine read_nodup h ?_
      unfold stepT at hs
      split at hs
      · split at hs
        · cases hs
        · rename_i nc
          cases hs
          rw [List.map_append, List.nodup_append]
          refine ⟨nd, by simp, fun x hx y hy e => ?_⟩
          have : y = wd (wsOf l) 1 := by simpa using hy
          rw [e, this] at hx
          exact nc (.inr (.inr (.inl hx)))
      · cases hc : colOf (wsOf l) names with
        | none =>
          rw [hc] at hs
          cases hs
        | some c =>
          rw [hc] at hs
          have hs : addCol ts c = some ts' := hs
          obtain ⟨acc, n, cs, rfl⟩ := addCol_some hs
          obtain ⟨_, _, rfl⟩ := addCol_last hs
          have e : (acc ++ [(n, cs ++ [c])]).map Prod.fst = (acc ++ [(n, cs)]).map Prod.fst := by rw [List.map_append, List.map_append] <;> rfl
          rw [e]
          exact nd
def tupD (r : List Str) : PyData := .tuple (r.map PyData.str)
theorem shp_tups {cols : List (List Str)} (h : ∀ r ∈ cols, ∀ z ∈ r, isW z = true) : SeqAt.shaped (.list (cols.map tupD)) = true := by
  refine (Shp.lst (n := 1) fun d hd => ?_).shaped (by decide)
  obtain ⟨r, hr, rfl⟩ := List.mem_map.mp hd
  exact .tup (shp_strs fun z hz => strOk_word (h r hr z hz))
def refD : PyData := .tuple [.str ("refused" : Str), .int (-1)]
theorem shp_ref : SeqAt.shaped refD = true := by
  refine (Shp.tup (n := 0) fun d hd => ?_).shaped (by decide)
  simp only [List.mem_cons, List.not_mem_nil, or_false] at hd
  rcases hd with rfl | rfl
  · exact .str (by decide +kernel)
  · exact .int _
/-- what was told: refused with the line, or a Schema -/
def Told (K : PySem.W.Frag) (H : Hp) (z : Str) (r : Except Nat (List Tab)) (tw : Str) (wv : V) : Prop :=
  (∃ i : Nat, r = .error i ∧ tw = ("refused" : Str) ∧ wv = .int (i : Int)) ∨ ∃ ts x, r = .ok ts ∧ tw = ("made" : Str) ∧ wv = .ref x ∧ SchAt K H x z ts
theorem Told.same {K : PySem.W.Frag} {H H' : Hp} {z tw : Str} {r : Except Nat (List Tab)} {wv : V} (h : Told K H z r tw wv) (s : Same H H') : Told K H' z r tw wv := by
  rcases h with h | ⟨ts, x, h1, h2, h3, h4⟩
  · exact .inl h
  · exact .inr ⟨ts, x, h1, h2, h3, h4.same s⟩
section
variable {P : Program} {w : World} {K : PySem.W.Frag} {mg : Str → Option Value} {base : Heap}
theorem sc_law : FnScope [("_law_script" : Str), ("_law_at" : Str), ("_law_pool_here" : Str), ("_law_lines_here" : Str), ("_law_turn" : Str), ("_law_wrong" : Str), ("_law_names" : Str), ("_law_columns_here" : Str), ("_law_told" : Str), ("_law_what" : Str), ("_law_due" : Str), ("_law_row" : Str), ("_law_name" : Str), ("_law_thing" : Str)] [("_law_script" : Str)] (defScope s_law) := ⟨rfl, rfl, rfl, by decide +kernel, rfl, by decide +kernel, by decide +kernel⟩
theorem ok_law {f : Addr} {fd : FuncData} (F : FnP K "law" s_law f fd) (T : Blt mg) (M : ScC K mg) (S : ScS K mg) (C : ExF P K mg) (F_pool : FnAt P w K mg base "_law_pool" [("_law_script" : Str), ("_law_at" : Str)] 1 (spPool K)) (F_draw : FnAt P w K mg base "_law_draw" [("_law_pool_here" : Str), ("_law_many" : Str)] 1 spDraw) (F_of : FnAt P w K mg base "_law_of" [("_law_pool_here" : Str), ("_law_some" : Str)] 2 (spOf K)) (F_tables : FnAt P w K mg base "_law_tables" [("_law_pool_here" : Str), ("_law_most" : Str), ("_law_widest" : Str)] 3 (spTables K))
    (F_lines : FnAt P w K mg base "_law_lines" [("_law_tables_here" : Str)] 1 (spLines K)) (F_ch : FnAt P w K mg base "_law_changed" [("_law_pool_here" : Str), ("_law_lines_here" : Str)] 5 (spCh K)) (F_rdg : FnAt P w K mg base "_law_reading" [("_law_lines_here" : Str)] 3 (spRdg K)) (F_out : FnAt P w K mg base "_law_outcome" [("_law_text" : Str)] 6 (spOut K))
    (F_columns : MtAt P w K mg base "Schema" "columns" [("self" : Str), ("table" : Str)] 1 (spColumns K)) :
    FnG P w K mg base 7 f fd [("_law_script" : Str)] (spLaw K) := by
  refine fnG_of F sc_law (fun vs H Q E h => ?_) (fun cdv A outer s H vs Q hg hr h => ?_)
  · obtain ⟨a, ns, rfl, _⟩ := h
    rfl
  · obtain ⟨a, nsS, rfl, hS, hl, k⟩ := h
    refine ⟨_, (pss_cons (ps_for PassesOwn.never rfl (pi_range1 rfl T.range (pa_cons (pe_callB (call_max2 rfl) (by rfl) T.max (by decide +kernel) (pa_cons pe_int (pa_cons (pe_callB (call_min2 rfl) (by rfl) T.min (by decide +kernel) (pa_cons pe_int (pa_cons (pe_callB call_len_seq (by rfl) T.len PySem.boot_len (pa_cons (pv 0) pa_nil)) pa_nil))) pa_nil))) pa_nil)) (pg_name (i := 1) sc_law.nd rfl (Or.inl rfl))
      (pss_cons (ps_set (i := 2) sc_law.nd rfl (Or.inl rfl) (pe_fn F_pool (hr.mono (by decide)) (by rfl) (pa_cons (pv 0) (pa_cons (pv 1) pa_nil))))
      (pss_cons (ps_set (i := 3) sc_law.nd rfl (Or.inl rfl) (pe_fn F_lines (hr.mono (by decide)) (by rfl) (pa_cons (pe_fn F_tables (hr.mono (by decide)) (by rfl) (pa_cons (pv 2) (pa_cons pe_int (pa_cons pe_int pa_nil)))) pa_nil)))
      (pss_cons (ps_for PassesOwn.never rfl (pi_range1 rfl T.range (pa_cons (pe_fn F_draw (hr.mono (by decide)) (by rfl) (pa_cons (pv 2) (pa_cons pe_int pa_nil))) pa_nil)) (pg_name (i := 4) sc_law.nd rfl (Or.inl rfl))
      (pss_one (ps_set (i := 3) sc_law.nd rfl (Or.inl rfl) (pe_split (pe_join pe_str (pe_fn F_ch (hr.mono (by decide)) (by rfl) (pa_cons (pv 2) (pa_cons (pv 3) pa_nil)))) pe_str))))
      (pss_cons (ps_asg (pe_fn F_rdg (hr.mono (by decide)) (by rfl) (pa_cons (pv 3) pa_nil)) (pg_tup rfl (pgs_cons (pg_name (i := 5) sc_law.nd rfl (Or.inl rfl)) (pgs_cons (pg_name (i := 6) sc_law.nd rfl (Or.inl rfl)) (pgs_cons (pg_name (i := 7) sc_law.nd rfl (Or.inl rfl)) pgs_nil)))))
      (pss_cons (ps_asg (pe_fn F_out (hr.mono (by decide)) (by rfl) (pa_cons (pe_join pe_str (pv 3)) pa_nil)) (pg_tup rfl (pgs_cons (pg_name (i := 8) sc_law.nd rfl (Or.inl rfl)) (pgs_cons (pg_name (i := 9) sc_law.nd rfl (Or.inr rfl)) pgs_nil))))
      (pss_cons (ps_if (pt_cmpR op_ne (pv 8) (pe_ifExp (pt_cmpR op_eq (pv 5) (pe_un un_neg pe_int) (nomark _)) pe_str pe_str) (nomark _))
      (pss_one (ps_ret pe_bl))
      pss_nil)
      (pss_cons (ps_if (PW.pt (pw_and (pt_cmpR op_ne (pv 5) (pe_un un_neg pe_int) (nomark _)) (pw_and1 (PW.pt (pw_or (pt_cmpR op_ne (pv 9) (pv 5) (nomark _)) (pw_or (pt_not (pt_val (pe_callB call_isi (by rfl) M.isinstance (by decide +kernel) (pa_cons (pv 9) (pa_cons (pe_bltn (v := .ty "int") (by rfl) T.int (by decide +kernel) rfl) pa_nil))))) (pw_or1 (pt_val (pe_callB call_isi (by rfl) M.isinstance (by decide +kernel) (pa_cons (pv 9) (pa_cons (pe_bltn (v := .ty "bool") (by rfl) C.fbool (by decide +kernel) rfl) pa_nil)))))))))))
      (pss_one (ps_ret pe_bl))
      pss_nil)
      (pss_cons (ps_if (PW.pt (pw_and (pt_cmpR op_eq (pv 5) (pe_un un_neg pe_int) (nomark _)) (pw_and1 (pt_cmpR (op_neD hr.units) (pe_fld (pv 9) rfl) (pe_callTy call_tuple_of (by rfl) T.tuple (by decide +kernel) (pa_cons (pv 6) pa_nil)) (nomark _)))))
      (pss_one (ps_ret pe_bl))
      pss_nil)
      (pss_cons (ps_setLc (i := 10) (own := [(("_law_row" : Str), 11)]) (by rfl) sc_law.nd rfl rfl (sw_true rfl rfl rfl (by decide +kernel)) (pi_list (pv 7)) (blkOk_by (own := [(("_law_row" : Str), 11)]) (N := [("_law_script" : Str), ("_law_at" : Str), ("_law_pool_here" : Str), ("_law_lines_here" : Str), ("_law_turn" : Str), ("_law_wrong" : Str), ("_law_names" : Str), ("_law_columns_here" : Str), ("_law_told" : Str), ("_law_what" : Str), ("_law_due" : Str), ("_law_row" : Str), ("_law_name" : Str), ("_law_thing" : Str)]) (sc := defScope s_law) (by decide +kernel)) (fun _ _ _ _ _ => pg_name (i := 11) sc_law.nd rfl (Or.inl rfl)) (fun _ _ _ _ _ => pts_nil) (fun _ _ _ _ _ => (pe_callTy (call_tuple_ofK (K := K)) (by rfl) T.tuple (by decide +kernel) (pa_cons (pv 11) pa_nil))))
      (pss_cons (ps_if (PW.pt (pw_and (pt_cmpR op_eq (pv 5) (pe_un un_neg pe_int) (nomark _)) (pw_and1 (pt_cmpR (op_neD hr.units) (pe_lc (own := [(("_law_name" : Str), 12)]) (by rfl) sc_law.nd (pi_list (pv 6)) (blkOk_by (own := [(("_law_name" : Str), 12)]) (N := [("_law_script" : Str), ("_law_at" : Str), ("_law_pool_here" : Str), ("_law_lines_here" : Str), ("_law_turn" : Str), ("_law_wrong" : Str), ("_law_names" : Str), ("_law_columns_here" : Str), ("_law_told" : Str), ("_law_what" : Str), ("_law_due" : Str), ("_law_row" : Str), ("_law_name" : Str), ("_law_thing" : Str)]) (sc := defScope s_law) (by decide +kernel)) (fun _ _ _ _ _ => pg_name (i := 12) sc_law.nd rfl (Or.inl rfl)) (fun _ _ _ _ _ => pts_nil) (fun _ _ _ _ _ => (pe_mtK (K := K) F_columns S.cl (hr.mono (by decide)) (pv 9) (pa_cons (pv 12) pa_nil)))) (pv 10) (nomark _)))))
      (pss_one (ps_ret pe_bl))
      pss_nil)
      (pss_cons (ps_set (i := 13) sc_law.nd rfl (Or.inl rfl) (pe_fn F_of (hr.mono (by decide)) (by rfl) (pa_cons (pv 2) (pa_cons (pe_lst (pa_cons pe_non (pa_cons pe_int (pa_cons pe_int (pa_cons pe_bl (pa_cons (pv 3) (pa_cons (pe_callTy call_tuple_of (by rfl) T.tuple (by decide +kernel) (pa_cons (pv 3) pa_nil)) (pa_cons (pe_tup (pa_cons (pe_join pe_str (pv 3)) pa_nil)) (pa_cons (pe_lst pa_nil) pa_nil))))))))) pa_nil))))
      (pss_one (ps_if (pt_cmpR (op_neD hr.units) (pe_fn F_out (hr.mono (by decide)) (by rfl) (pa_cons (pv 13) pa_nil)) (pe_tup (pa_cons pe_str (pa_cons (pe_un un_neg pe_int) pa_nil))) (nomark _))
      (pss_one (ps_ret pe_bl))
      pss_nil))))))))))))))
      (pss_one (ps_ret pe_bl))), ?_⟩
    have hj := loop_bound (n := ((nsS.map V.int).length : Int)) (Int.natCast_nonneg _)
    refine ⟨_, rfl, a, _, rfl, .inl hS, 8, _, rfl, 1, _, rfl, _, rfl, by omega, by omega, ?_⟩
    refine for_range (lo := 0) (fun i σ H' => ∃ x1 x2 x3 x4 x5 x6 x7 x8 x9 x10 x11 x12 x13 : Option V, σ = [some (.ref a), x1, x2, x3, x4, x5, x6, x7, x8, x9, x10, x11, x12, x13] ∧ Same H H') ⟨_, _, _, _, _, _, _, _, _, _, _, _, _, rfl, Same.refl _⟩ ?_ ?_
    · rintro i σ H0 hi ⟨x1, x2, x3, x4, x5, x6, x7, x8, x9, x10, x11, x12, x13, rfl, s0⟩
      refine ⟨_, rfl, _, rfl, a, nsS, i, by simp, s0.seq hS, by omega, fun H1 p np s1 p1 => ?_⟩
      refine ⟨_, rfl, p, 0, 5, 6, rfl, p1, by decide, by decide, by decide, by decide, fun H2 l1 ts0 k2 n2 p2 d1 ok w1 => ?_⟩
      refine ⟨l1, ts0, rfl, d1.full, ok, fun H3 l3 s3 n3 h3 => ?_⟩
      have p3 : PoolAt H3 p 1000 := (p2.mono (by omega)).same s3
      have n3p : l3 ≠ p := p2.ne n3
      have few := ok.few
      have ll0 := lines_len fun t ht => (ok.tab t ht).few
      have lpos : 0 < (linesOf ts0).length := List.length_pos_iff.mpr (lines_ne ok)
      refine ⟨_, rfl, p, _, 4, rfl, p3, by decide, by decide, by decide, fun H4 d4 k4 p4 d40 d41 => ?_⟩
      obtain ⟨b, rfl⟩ := Int.eq_ofNat_of_zero_le d40
      have hb3 : b ≤ 3 := by omega
      refine ⟨_, rfl, by omega, by omega, ?_⟩
      have b38 : (5000 : Nat) < 2 ^ 38 := by decide
      refine for_range (lo := 0) (fun j σ H' => ∃ (z4 : Option V) (ll : Addr) (ls : List Str), σ = [some (.ref a), some (.int (0 + (i : Int))), some (.ref p), some (.ref ll), z4, x5, x6, x7, x8, x9, x10, x11, x12, x13] ∧ Keep p H4 H' ∧ PoolAt H' p (1001 + 40 * j) ∧ SqL K (less p H') ll (ls.map V.str) ∧ 0 < ls.length ∧ ls.length ≤ 35 + 8 * j ∧ ∀ z ∈ ls, LnS (mxl j) z)
        ⟨_, l3, linesOf ts0, rfl, Keep.refl _ _, p4, SqL.of (less_at n3p (k4 _ _ n3p h3)), lpos, by omega, (fun z hz => line_ok ok z hz)⟩ ?_ ?_
      · rintro j σ H5 hj5 ⟨z4, ll, ls, rfl, k5, p5, S5, pos5, len5, ok5⟩
        have hj3 : j < 3 := by omega
        have m5 := mxl_le2 hj3
        refine ⟨⟨_, rfl⟩, _, rfl, _, rfl, p, ll, _, mxl j, ls, rfl, p5, by omega, S5, pos5, by omega, ok5, by omega, fun H6 q6 zs k6 p6 S6 len6 ok6 => ?_⟩
        have ok6' : ∀ z ∈ zs, z.length ≤ 2 * mxl j + 30 := fun z hz => (ok6 z hz).1
        have w6 := wt_le ok6'
        have w6' : wt zs ≤ 70 * 600 := Nat.le_trans w6 (Nat.mul_le_mul (by omega) (by omega))
        have jl := join_le nl1 zs
        refine ⟨("\n" : Str), q6, zs, rfl, rfl, .inl ((less_same _ _).seq S6), by rw [nl1]; show (zs.map (·.length)).sum + zs.length * 1 ≤ _; unfold wt at w6'; omega, ?_⟩
        refine ⟨⟨_, rfl⟩, _, _, rfl, rfl, by decide +kernel, by rw [sizeLine_eq]; omega, fun q7 hq7 => ?_⟩
        have er := relines fun z hz => (ok6 z hz).2
        have n7 := p6.ne hq7
        have s7 := same_upd (o := .lst ((linesIn (Txt.join ("\n" : Str) zs)).map V.str)) hq7
        refine ⟨_, q7, linesIn (Txt.join ("\n" : Str) zs), rfl, k5.trans (k6.trans (Keep.of s7)), (p6.mono (by omega)).same s7, SqL.of (less_at n7 upd_same), ?_, ?_, ?_⟩
        · rw [er]
          split
          · decide
          · rename_i q
            exact List.length_pos_iff.mpr q
        · rw [er]
          split
          · show 1 ≤ _
            omega
          · omega
        · rw [er]
          intro z hz
          split at hz
          · rw [List.mem_singleton.mp hz]
            exact ⟨by have : (("" : Str)).length = 0 := by decide +kernel
                      omega, by decide +kernel⟩
          · exact ok6 z hz
      rintro σ H5 ⟨z4, ll, ls, rfl, k5, p5, S5, pos5, len5, ok5⟩
      have m5 := mxl_le hb3
      have ok5' : ∀ z ∈ ls, z.length ≤ 530 := fun z hz => Nat.le_trans (ok5 z hz).1 m5
      have w5 := wt_le ok5'
      have w5' : wt ls ≤ 70 * 600 := Nat.le_trans w5 (Nat.mul_le_mul (by omega) (by omega))
      have jl := join_le nl1 ls
      have er := relines1 pos5 fun z hz => (ok5 z hz).2
      have sh5 : Short ls := ⟨by omega, fun z hz => by have := ok5' z hz; omega⟩
      have p5 : PoolAt H5 p 2000 := p5.mono (by omega)
      have bnd : (ls.map (·.length)).sum + ls.length * (("\n" : Str)).length ≤ 16777216 := by
        rw [nl1]
        unfold wt at w5'
        omega
      obtain ⟨fin, hfin⟩ : ∃ r, readT (named ls) ls [] 0 = r := ⟨_, rfl⟩
      refine ⟨_, rfl, ll, ls, rfl, (less_same _ _).seq S5, sh5, fun H6 q6 nl cl at_ ns rows cols s6 hq6 hn6 hc6 dp6 rd6 wN lN lC oC => ?_⟩
      rw [hfin] at rd6
      refine ⟨q6, _, rfl, SqT.of hq6, rfl, _, _, rfl, _, _, rfl, _, _, rfl, rfl, ?_⟩
      have S6 := Same.seq (less_mono s6) S5
      have p6 := p5.same s6
      have zl : (Txt.join ("\n" : Str) ls).length ≤ 100000 := by omega
      dsimp only
      refine as_ (once_ (Good := fun v H' => ∃ q tw wv, v = .ref q ∧ Same H6 H' ∧ H' q = some (.tup [.str tw, wv]) ∧ Told K H' (Txt.join ("\n" : Str) ls) fin tw wv) (fun Q kQ => ?_) ?_)
      · refine ⟨⟨_, rfl⟩, _, rfl, ("\n" : Str), ll, ls, rfl, rfl, .inl ((less_same _ _).seq S6), bnd, _, rfl, .inl ⟨_, rfl, zl, by rw [er]; exact sh5, fun i hi H' q s' h' => ?_, fun ts hts H' q x s' h' sc => ?_⟩⟩
        · rw [er, hfin] at hi
          exact kQ _ _ ⟨q, _, _, rfl, s', h', .inl ⟨i, hi, rfl, rfl⟩⟩
        · rw [er, hfin] at hts
          exact kQ _ _ ⟨q, _, _, rfl, s', h', .inr ⟨ts, x, hts, rfl, rfl, sc⟩⟩
      rintro _ H7 ⟨q7, tw, wv, rfl, s7, h7, told7⟩
      refine ⟨q7, _, rfl, SqT.of h7, rfl, _, _, rfl, _, _, rfl, rfl, ?_⟩
      have S7 := Same.seq (less_mono s7) S6
      have p7 := p6.same s7
      have hn7 := s7 _ _ hn6
      have hc7 := s7 _ _ hc6
      have dp7 := DpAll.same s7 _ _ dp6
      have neg : ∀ {j : Nat}, ¬ (V.int ((j : Nat) : Int) = V.int (-1)) := fun z => by injection z with z; omega
      refine seq_once (fun H' => Same H7 H') (fun N kN => ?_) ?_
      · rcases told7 with ⟨j, e1, rfl, rfl⟩ | ⟨ts, x, e1, rfl, rfl, sc⟩
        · rw [e1] at rd6
          have rd6 : at_ = (j : Int) := rd6
          subst rd6
          refine ⟨_, rfl, _, rfl, 1, rfl, rfl, _, rfl, iteDF neg ?_⟩
          exact ⟨rfl, _, rfl, iteNS rfl (kN _ (Same.refl _))⟩
        · rw [e1] at rd6
          obtain ⟨rfl, rfl, rfl⟩ := rd6
          refine ⟨_, rfl, _, rfl, 1, rfl, rfl, _, rfl, iteDT rfl ?_⟩
          exact ⟨rfl, _, rfl, iteNS rfl (kN _ (Same.refl _))⟩
      intro H8 s8
      have told8 := told7.same s8
      refine seq_once (fun H' => Same H8 H') (fun N kN => ?_) ?_
      · rcases told8 with ⟨j, e1, rfl, rfl⟩ | ⟨ts, x, e1, rfl, rfl, sc⟩
        · rw [e1] at rd6
          have rd6 : at_ = (j : Int) := rd6
          subst rd6
          refine ⟨_, rfl, 1, rfl, rfl, _, rfl, iteNN neg ?_⟩
          refine ⟨_, rfl, _, rfl, rfl, _, rfl, iteNS rfl ?_⟩
          refine ⟨_, rfl, _, _, _, _, true, rfl, .ty "int", .base (.int _), kit_ty (by decide +kernel), _, rfl, iteF ?_⟩
          exact ⟨_, rfl, _, _, _, _, false, rfl, .ty "bool", .base (.int _), kit_ty (by decide +kernel), _, rfl, iteF (kN _ (Same.refl _))⟩
        · rw [e1] at rd6
          obtain ⟨rfl, rfl, rfl⟩ := rd6
          exact ⟨_, rfl, 1, rfl, rfl, _, rfl, iteNS rfl (iteF (kN _ (Same.refl _)))⟩
      intro H9 s9
      have told9 := told8.same s9
      have s79 := s8.trans s9
      have hn9 := s79 _ _ hn7
      refine seq_once (fun H' => Same H9 H') (fun N kN => ?_) ?_
      · rcases told9 with ⟨j, e1, rfl, rfl⟩ | ⟨ts, x, e1, rfl, rfl, sc⟩
        · rw [e1] at rd6
          have rd6 : at_ = (j : Int) := rd6
          subst rd6
          exact ⟨_, rfl, 1, rfl, rfl, _, rfl, iteDF neg (iteF (kN _ (Same.refl _)))⟩
        · rw [e1] at rd6
          obtain ⟨rfl, rfl, rfl⟩ := rd6
          obtain ⟨dx, df, tp, o, kvs, hx, hd, tb, htp⟩ := id sc
          refine ⟨_, rfl, 1, rfl, rfl, _, rfl, iteDT rfl ?_⟩
          refine ⟨_, rfl, x, _, dx, _, _, rfl, hx, S.cl, S.tables, rfl, _, rfl, nl, _, rfl, .inl ⟨SqL.of hn9, fun tq htq => ?_⟩⟩
          have s10 := same_upd (o := .tup ((ts.map Prod.fst).map V.str)) htq
          have shn : SeqAt.shaped (tupD (ts.map Prod.fst)) = true := (Shp.tup (n := 0) (shp_strs fun z hz => strOk_word (wN z hz))).shaped (by decide)
          have d1 : Dp K (upd H9 tq (.tup ((ts.map Prod.fst).map V.str))) (.ref tp) (tupD (ts.map Prod.fst)) := by
            refine dp_tup (s10 _ _ htp) ?_
            rw [show (ts.map fun t => V.str t.1) = (ts.map Prod.fst).map V.str by rw [List.map_map] <;> rfl]
            exact DpAll.strs _
          refine ⟨_, _, d1, (show Dp K _ (.ref tq) (tupD (ts.map Prod.fst)) from dp_tup upd_same (DpAll.strs _)), shn, shn, false, by rw [eqv_same shn]; rfl, iteF (kN _ s10)⟩
      intro H10 s10
      have s710 := s79.trans s10
      have told10 := told9.same s10
      have hn10 := s710 _ _ hn7
      have hc10 := s710 _ _ hc7
      have dp10 := DpAll.same s710 _ _ dp7
      refine ⟨_, rfl, cl, rfl, ⟨_, SqL.of hc10⟩, fun L hL => ?_⟩
      refine lc_dat (K := K) (f := rowD) (l := cols) (fun r => some (tupD r)) hL (SqL.of hc10) dp10 ?_ ?_
      · intro i v r H' hv hx hd P
        obtain ⟨ar, xs, rfl, hs, hdr⟩ := Dp.lst_inv hd
        rw [DpAll.strs_inv hdr] at hs
        refine ⟨rfl, yes_ ⟨_, rfl, ar, _, rfl, .inl ⟨hs, fun tq htq => ?_⟩⟩⟩
        exact P.step (by omega) (same_upd htq) hx rfl (dp_tup (less_at (P.ne htq) upd_same) (DpAll.strs _)) hL
      intro H11 dv s11 h11 d11
      rw [fm_some] at d11
      have told11 := told10.same s11
      have hn11 := s11 _ _ hn10
      have sht := shp_tups (cols := cols) fun r hr => (oC r hr).2
      dsimp only
      refine seq_once (fun H' => Same H11 H') (fun N kN => ?_) ?_
      · rcases told11 with ⟨j, e1, rfl, rfl⟩ | ⟨ts, x, e1, rfl, rfl, sc⟩
        · rw [e1] at rd6
          have rd6 : at_ = (j : Int) := rd6
          subst rd6
          exact ⟨_, rfl, 1, rfl, rfl, _, rfl, iteDF neg (iteF (kN _ (Same.refl _)))⟩
        · have nod : (ts.map Prod.fst).Nodup := read_nodup (hfin.trans e1) (by simp)
          rw [e1] at rd6
          obtain ⟨rfl, rfl, rfl⟩ := rd6
          rw [List.length_map] at lC
          obtain ⟨dx, df, tp, o, kvs, hx, _⟩ := id sc
          refine ⟨_, rfl, 1, rfl, rfl, _, rfl, iteDT rfl ?_⟩
          refine ⟨_, rfl, nl, rfl, ⟨_, SqL.of hn11⟩, fun L2 hL2 => ?_⟩
          refine lc_dat (K := K) (f := fun t : Tab => PyData.str t.1) (l := ts) (fun t => some (tupD (t.2.map Col.name))) hL2 (SqL.of hn11) ?_ ?_ ?_
          · rw [show (ts.map fun t : Tab => PyData.str t.1) = (ts.map Prod.fst).map PyData.str by rw [List.map_map] <;> rfl]
            exact DpAll.strs _
          · intro i v t H' hv hxt hd P
            have ev : v = .str t.1 := by cases hd; rfl
            subst ev
            refine ⟨rfl, yes_ ⟨_, rfl, x, dx, _, rfl, P.same _ _ hx, rfl, _, rfl, x, _, t.1, ts, t.2, rfl, sc.same P.same, tabAt_nodup nod (List.mem_of_getElem? hxt), fun H'' q s'' n'' h'' => ?_⟩⟩
            refine P.step (by omega) s'' hxt rfl (dp_tup (less_at (P.ne n'') h'') ?_) hL2
            rw [show (t.2.map fun c => V.str c.name) = (t.2.map Col.name).map V.str by rw [List.map_map] <;> rfl]
            exact DpAll.strs _
          intro H12 dw s12 h12 d12
          rw [fm_some] at d12
          have e12 : (ts.map fun t => tupD (t.2.map Col.name)) = (ts.map fun t => t.2.map Col.name).map tupD := by rw [List.map_map] <;> rfl
          rw [e12] at d12
          refine ⟨_, rfl, _, _, dp_lst h12 (DpAll.same (less_same _ _) _ _ d12), dp_lst (s12 _ _ h11) (DpAll.same ((less_same _ _).trans s12) _ _ d11), sht, sht, false, by rw [eqv_same sht]; rfl, iteF (kN _ s12)⟩
      intro H12 s12
      have s712 := s710.trans (s11.trans s12)
      have S12 := Same.seq (less_mono s712) S7
      have p12 := p7.same s712
      have fS : ∀ {H' : Hp}, Same H12 H' → SqL K H' ll (ls.map V.str) := fun s' => s'.seq ((less_same _ _).seq S12)
      refine as_ (once_ (Good := fun v H' => Keep p H12 H' ∧ ∃ d, Dp K H' v d ∧ isSt d = false) (fun Q kQ => ?_) ?_)
      · refine ⟨_, rfl, _, rfl, _, rfl, ll, _, rfl, .inl ⟨fS (Same.refl _), fun tq htq => ?_⟩⟩
        generalize e13 : upd H12 tq _ = H13
        have s13 := al_s e13 htq
        have h13 := al_v e13
        clear e13
        have n13 := p12.ne htq
        refine ⟨⟨_, rfl⟩, _, rfl, ("\n" : Str), ll, ls, rfl, rfl, .inl (fS s13), bnd, by show 1 ≤ sizeLine; decide, fun tz htz => ?_⟩
        generalize e14 : upd H13 tz _ = H14
        have s14 := al_s e14 htz
        have h14 := al_v e14
        clear e14
        have n14 := (p12.same s13).ne htz
        refine ⟨by show 0 ≤ sizeLine; decide, fun te hte => ?_⟩
        generalize e15 : upd H14 te _ = H15
        have s15 := al_s e15 hte
        have h15 := al_v e15
        clear e15
        have n15 := ((p12.same s13).same s14).ne hte
        refine ⟨by show 8 ≤ sizeLine; decide, fun q16 hq16 => ?_⟩
        generalize e16 : upd H15 q16 _ = H16
        have s16 := al_s e16 hq16
        have h16 := al_v e16
        clear e16
        have s1216 := s13.trans (s14.trans (s15.trans s16))
        have p15 := p12.same (s13.trans (s14.trans s15))
        refine ⟨p, q16, _, _, rfl, p15.same s16, by decide, SqL.of h16, p15.ne hq16, by show 0 < 8; decide, by show 8 ≤ 1000; decide, fun H17 v k17 p17 hv => kQ _ _ ⟨(Keep.of s1216).trans k17, ?_⟩⟩
        have k1217 : Keep p H12 H17 := (Keep.of s1216).trans k17
        have S17 := (less_same p H17).seq (Same.seq (less_keep k1217) S12)
        simp only [List.mem_cons, List.not_mem_nil, or_false] at hv
        rcases hv with rfl | rfl | rfl | rfl | rfl | rfl | rfl | rfl
        · exact ⟨_, .non, rfl⟩
        · exact ⟨_, .int _, rfl⟩
        · exact ⟨_, .int _, rfl⟩
        · exact ⟨_, .bl _, rfl⟩
        · exact ⟨_, .lst S17 (DpAll.strs _), rfl⟩
        · exact ⟨_, dp_tup (k17 _ _ n13 (s16 _ _ (s15 _ _ (s14 _ _ h13)))) (DpAll.strs _), rfl⟩
        · exact ⟨_, dp_tup (k17 _ _ n14 (s16 _ _ (s15 _ _ h14))) (dps_s .nil), rfl⟩
        · exact ⟨_, dp_lst (k17 _ _ n15 (s16 _ _ h15)) .nil, rfl⟩
      rintro v13 H13 ⟨k13, dd, hdd, hns⟩
      refine ⟨_, rfl, _, rfl, .inr ⟨dd, hdd, hns, fun H14 q14 s14 h14 => ?_⟩⟩
      refine ⟨1, rfl, by show 2 ≤ sizeLine; decide, fun tq htq => ?_⟩
      have s15 := same_upd (o := .tup [V.str ("refused" : Str), V.int (-1)]) htq
      have dr : ∀ {H' : Hp} {q : Addr}, H' q = some (.tup [V.str ("refused" : Str), V.int (-1)]) → Dp K H' (.ref q) refD := fun h => dp_tup h (dps_s (.cons (.int _) .nil))
      refine ⟨_, _, dr (s15 _ _ h14), dr upd_same, shp_ref, shp_ref, false, by rw [eqv_same shp_ref]; rfl, iteF ?_⟩
      refine ⟨_, _, _, _, _, _, _, _, _, _, _, _, _, rfl, fun b o e => ?_⟩
      have ne_p : b ≠ p := ne_of_none (s0 _ _ e) np
      exact s15 _ _ (s14 _ _ (k13 _ _ ne_p (s712 _ _ (s7 _ _ (s6 _ _ (k5 _ _ ne_p (k4 _ _ ne_p (s3 _ _ (k2 _ _ ne_p (s1 _ _ (s0 _ _ e)))))))))))
    · rintro σ H0 ⟨x1, x2, x3, x4, x5, x6, x7, x8, x9, x10, x11, x12, x13, rfl, s0⟩
      exact k _
end
end Ow

/-! k03: the end -/
namespace Ow
open PySem PySem.Spec L2 NdefX
theorem ib_BadSchema (cl : List (Str × Addr)) (c : Addr) : IniBody Pr (nfOf "BadSchema.__init__" s_BadSchema___init__ cl c) [("at" : Str)] where
  sc := show NScope (nsOf [("at" : Str)]) (psOf [("at" : Str)]) clsN (defScope s_BadSchema___init__) from nscope_by (by decide +kernel)
  sup := show (defScope s_BadSchema___init__).names.lookup ("super" : Str) = some .globalImplicit from by decide +kernel
  top := by decide +kernel
  par := ⟨_, rfl, rfl⟩
  dbg := by decide +kernel
  int := fun _ _ => rfl
  body := ⟨_, _, _, _, _, _, _, _, _, rfl, .cons .nil, fun _ _ => by rfl⟩
section
variable {K : PySem.W.Frag} {h : Heap} {mg : Str → Option Value}
theorem t_wall (X : K.In h) (G : h.Ns mainGlobals mg) (c : SaysO fa fn mt exK K) : TopD K mg "_wall" s_wall := by
  obtain ⟨fd, F⟩ := c.d.def_ 0 (d := d_wall) rfl
  exact ⟨_, fd, F, He.glo_ok X G (c.d.fact 16 (f := .glo "_wall") rfl)⟩
theorem t_is_word (X : K.In h) (G : h.Ns mainGlobals mg) (c : SaysO fa fn mt exK K) : TopD K mg "is_word" s_is_word := by
  obtain ⟨fd, F⟩ := c.d.def_ 1 (d := d_is_word) rfl
  exact ⟨_, fd, F, He.glo_ok X G (c.d.fact 17 (f := .glo "is_word") rfl)⟩
theorem t_named_tables (X : K.In h) (G : h.Ns mainGlobals mg) (c : SaysO fa fn mt exK K) : TopD K mg "named_tables" s_named_tables := by
  obtain ⟨fd, F⟩ := c.d.def_ 2 (d := d_named_tables) rfl
  exact ⟨_, fd, F, He.glo_ok X G (c.d.fact 18 (f := .glo "named_tables") rfl)⟩
theorem t_column_of (X : K.In h) (G : h.Ns mainGlobals mg) (c : SaysO fa fn mt exK K) : TopD K mg "column_of" s_column_of := by
  obtain ⟨fd, F⟩ := c.d.def_ 3 (d := d_column_of) rfl
  exact ⟨_, fd, F, He.glo_ok X G (c.d.fact 19 (f := .glo "column_of") rfl)⟩
theorem t_read_tables (X : K.In h) (G : h.Ns mainGlobals mg) (c : SaysO fa fn mt exK K) : TopD K mg "read_tables" s_read_tables := by
  obtain ⟨fd, F⟩ := c.d.def_ 4 (d := d_read_tables) rfl
  exact ⟨_, fd, F, He.glo_ok X G (c.d.fact 20 (f := .glo "read_tables") rfl)⟩
theorem t_law_pool (X : K.In h) (G : h.Ns mainGlobals mg) (c : SaysO fa fn mt exK K) : TopD K mg "_law_pool" s_law_pool := by
  obtain ⟨fd, F⟩ := c.d.def_ 5 (d := d_law_pool) rfl
  exact ⟨_, fd, F, He.glo_ok X G (c.d.fact 21 (f := .glo "_law_pool") rfl)⟩
theorem t_law_draw (X : K.In h) (G : h.Ns mainGlobals mg) (c : SaysO fa fn mt exK K) : TopD K mg "_law_draw" s_law_draw := by
  obtain ⟨fd, F⟩ := c.d.def_ 6 (d := d_law_draw) rfl
  exact ⟨_, fd, F, He.glo_ok X G (c.d.fact 22 (f := .glo "_law_draw") rfl)⟩
theorem t_law_of (X : K.In h) (G : h.Ns mainGlobals mg) (c : SaysO fa fn mt exK K) : TopD K mg "_law_of" s_law_of := by
  obtain ⟨fd, F⟩ := c.d.def_ 7 (d := d_law_of) rfl
  exact ⟨_, fd, F, He.glo_ok X G (c.d.fact 23 (f := .glo "_law_of") rfl)⟩
theorem t_law_letters (X : K.In h) (G : h.Ns mainGlobals mg) (c : SaysO fa fn mt exK K) : TopD K mg "_law_letters" s_law_letters := by
  obtain ⟨fd, F⟩ := c.d.def_ 8 (d := d_law_letters) rfl
  exact ⟨_, fd, F, He.glo_ok X G (c.d.fact 24 (f := .glo "_law_letters") rfl)⟩
theorem t_law_word (X : K.In h) (G : h.Ns mainGlobals mg) (c : SaysO fa fn mt exK K) : TopD K mg "_law_word" s_law_word := by
  obtain ⟨fd, F⟩ := c.d.def_ 9 (d := d_law_word) rfl
  exact ⟨_, fd, F, He.glo_ok X G (c.d.fact 25 (f := .glo "_law_word") rfl)⟩
theorem t_law_tables (X : K.In h) (G : h.Ns mainGlobals mg) (c : SaysO fa fn mt exK K) : TopD K mg "_law_tables" s_law_tables := by
  obtain ⟨fd, F⟩ := c.d.def_ 10 (d := d_law_tables) rfl
  exact ⟨_, fd, F, He.glo_ok X G (c.d.fact 26 (f := .glo "_law_tables") rfl)⟩
theorem t_law_lines (X : K.In h) (G : h.Ns mainGlobals mg) (c : SaysO fa fn mt exK K) : TopD K mg "_law_lines" s_law_lines := by
  obtain ⟨fd, F⟩ := c.d.def_ 11 (d := d_law_lines) rfl
  exact ⟨_, fd, F, He.glo_ok X G (c.d.fact 27 (f := .glo "_law_lines") rfl)⟩
theorem t_law_columns (X : K.In h) (G : h.Ns mainGlobals mg) (c : SaysO fa fn mt exK K) : TopD K mg "_law_columns" s_law_columns := by
  obtain ⟨fd, F⟩ := c.d.def_ 12 (d := d_law_columns) rfl
  exact ⟨_, fd, F, He.glo_ok X G (c.d.fact 28 (f := .glo "_law_columns") rfl)⟩
theorem t_law_is_word (X : K.In h) (G : h.Ns mainGlobals mg) (c : SaysO fa fn mt exK K) : TopD K mg "_law_is_word" s_law_is_word := by
  obtain ⟨fd, F⟩ := c.d.def_ 13 (d := d_law_is_word) rfl
  exact ⟨_, fd, F, He.glo_ok X G (c.d.fact 29 (f := .glo "_law_is_word") rfl)⟩
theorem t_law_is_column (X : K.In h) (G : h.Ns mainGlobals mg) (c : SaysO fa fn mt exK K) : TopD K mg "_law_is_column" s_law_is_column := by
  obtain ⟨fd, F⟩ := c.d.def_ 14 (d := d_law_is_column) rfl
  exact ⟨_, fd, F, He.glo_ok X G (c.d.fact 30 (f := .glo "_law_is_column") rfl)⟩
theorem t_law_reading (X : K.In h) (G : h.Ns mainGlobals mg) (c : SaysO fa fn mt exK K) : TopD K mg "_law_reading" s_law_reading := by
  obtain ⟨fd, F⟩ := c.d.def_ 15 (d := d_law_reading) rfl
  exact ⟨_, fd, F, He.glo_ok X G (c.d.fact 31 (f := .glo "_law_reading") rfl)⟩
theorem t_law_odd_word (X : K.In h) (G : h.Ns mainGlobals mg) (c : SaysO fa fn mt exK K) : TopD K mg "_law_odd_word" s_law_odd_word := by
  obtain ⟨fd, F⟩ := c.d.def_ 16 (d := d_law_odd_word) rfl
  exact ⟨_, fd, F, He.glo_ok X G (c.d.fact 32 (f := .glo "_law_odd_word") rfl)⟩
theorem t_law_line_changed (X : K.In h) (G : h.Ns mainGlobals mg) (c : SaysO fa fn mt exK K) : TopD K mg "_law_line_changed" s_law_line_changed := by
  obtain ⟨fd, F⟩ := c.d.def_ 17 (d := d_law_line_changed) rfl
  exact ⟨_, fd, F, He.glo_ok X G (c.d.fact 33 (f := .glo "_law_line_changed") rfl)⟩
theorem t_law_more (X : K.In h) (G : h.Ns mainGlobals mg) (c : SaysO fa fn mt exK K) : TopD K mg "_law_more" s_law_more := by
  obtain ⟨fd, F⟩ := c.d.def_ 18 (d := d_law_more) rfl
  exact ⟨_, fd, F, He.glo_ok X G (c.d.fact 34 (f := .glo "_law_more") rfl)⟩
theorem t_law_changed (X : K.In h) (G : h.Ns mainGlobals mg) (c : SaysO fa fn mt exK K) : TopD K mg "_law_changed" s_law_changed := by
  obtain ⟨fd, F⟩ := c.d.def_ 19 (d := d_law_changed) rfl
  exact ⟨_, fd, F, He.glo_ok X G (c.d.fact 35 (f := .glo "_law_changed") rfl)⟩
theorem t_law_outcome (X : K.In h) (G : h.Ns mainGlobals mg) (c : SaysO fa fn mt exK K) : TopD K mg "_law_outcome" s_law_outcome := by
  obtain ⟨fd, F⟩ := c.d.def_ 20 (d := d_law_outcome) rfl
  exact ⟨_, fd, F, He.glo_ok X G (c.d.fact 36 (f := .glo "_law_outcome") rfl)⟩
theorem t_Schema___init__ (c : SaysO fa fn mt exK K) : MtD K "Schema" "__init__" "Schema.__init__" s_Schema___init__ := by
  obtain ⟨fd, F⟩ := c.d.def_ 22 (d := d_Schema___init__) rfl
  exact ⟨_, fd, F, He.meth_ok (c.d.fact 52 (f := .meth "Schema" "__init__") rfl)⟩
theorem t_Schema_columns (c : SaysO fa fn mt exK K) : MtD K "Schema" "columns" "Schema.columns" s_Schema_columns := by
  obtain ⟨fd, F⟩ := c.d.def_ 23 (d := d_Schema_columns) rfl
  exact ⟨_, fd, F, He.meth_ok (c.d.fact 53 (f := .meth "Schema" "columns") rfl)⟩
theorem blt (X : K.In h) (G : h.Ns mainGlobals mg) (c : SaysO fa fn mt exK K) : Blt mg :=
  ⟨He.free_ok X G (c.d.fact 0 (f := .free "len") rfl), He.free_ok X G (c.d.fact 1 (f := .free "abs") rfl), He.free_ok X G (c.d.fact 2 (f := .free "int") rfl), He.free_ok X G (c.d.fact 3 (f := .free "range") rfl), He.free_ok X G (c.d.fact 4 (f := .free "max") rfl), He.free_ok X G (c.d.fact 5 (f := .free "min") rfl), He.free_ok X G (c.d.fact 6 (f := .free "isinstance") rfl), He.free_ok X G (c.d.fact 7 (f := .free "tuple") rfl), He.free_ok X G (c.d.fact 8 (f := .free "repr") rfl)⟩
theorem exs (c : SaysO fa fn mt exK K) : (He.tupB K "BARRED" [.str ("key" : Str), .str ("self" : Str), .str ("table" : Str)] = true ∧ He.tupB K "RULES" [.str ("refuse" : Str), .str ("clear" : Str), .str ("cascade" : Str)] = true) ∧ insB K = true ∧ othB K = true ∧ neB K = true :=
  have b := He.ba (He.ba c.x).1
  have b2 := He.ba b.2
  have b3 := He.ba b2.2
  ⟨He.ba b.1, b2.1, b3.1, b3.2⟩
theorem scc (X : K.In h) (G : h.Ns mainGlobals mg) (c : SaysO fa fn mt exK K) : ScC K mg :=
  ⟨He.str_ok X G (c.d.fact 44 (f := .str "LETTERS" LET) rfl), He.int_ok X G (c.d.fact 45 (f := .int "MOST_TABLES" 5) rfl), He.int_ok X G (c.d.fact 46 (f := .int "MOST_COLUMNS" 6) rfl), He.str_ok X G (c.d.fact 47 (f := .str "VALUE" ("value" : Str)) rfl), He.str_ok X G (c.d.fact 48 (f := .str "FLAG" ("flag" : Str)) rfl), He.str_ok X G (c.d.fact 49 (f := .str "LINK" ("link" : Str)) rfl),
   ⟨_, He.glo_ok X G (c.d.fact 50 (f := .glo "BARRED") rfl), He.tupB_ok (exs c).1.1⟩, ⟨_, He.glo_ok X G (c.d.fact 51 (f := .glo "RULES") rfl), He.tupB_ok (exs c).1.2⟩,
   He.free_ok X G (c.d.fact 9 (f := .free "all") rfl), He.free_ok X G (c.d.fact 10 (f := .free "enumerate") rfl), He.free_ok X G (c.d.fact 11 (f := .free "str") rfl), He.free_ok X G (c.d.fact 6 (f := .free "isinstance") rfl), He.free_ok X G (c.d.fact 7 (f := .free "tuple") rfl), He.free_ok X G (c.d.fact 0 (f := .free "len") rfl), He.free_ok X G (c.d.fact 12 (f := .free "any") rfl), He.free_ok X G (c.d.fact 13 (f := .free "list") rfl)⟩
theorem scs (X : K.In h) (G : h.Ns mainGlobals mg) (c : SaysO fa fn mt exK K) : ScS K mg :=
  ⟨He.glo_ok X G (c.d.fact 38 (f := .glo "Schema") rfl), He.cls_ok (c.d.fact 39 (f := .cls "Schema") rfl), ⟨_, He.mkr_ok (c.d.fact 40 (f := .mkr "Schema") rfl)⟩, He.noat_ok (c.d.fact 41 (f := .noat "Schema" "text") rfl), He.noat_ok (c.d.fact 42 (f := .noat "Schema" "found") rfl), He.noat_ok (c.d.fact 43 (f := .noat "Schema" "tables") rfl)⟩
theorem sci (c : SaysO fa fn mt exK K) : ScI K := by
  obtain ⟨_, hi, ho, hn⟩ := exs c
  obtain ⟨i1, hi⟩ := He.ba hi
  obtain ⟨i2, hi⟩ := He.ba hi
  obtain ⟨i3, hi⟩ := He.ba hi
  obtain ⟨i4, i5⟩ := He.ba hi
  refine ⟨fun e => .base (.ins e (He.cls_ok (c.d.fact 39 (f := .cls "Schema") rfl)) (of_decide_eq_true i1) (of_decide_eq_true i2) (of_decide_eq_true i3) (of_decide_eq_true i4)), of_decide_eq_true i5, fun T hT => ?_, ?_⟩
  · have q := List.all_eq_true.mp ho T hT
    obtain ⟨q1, q2⟩ := He.ba q
    exact ⟨of_decide_eq_true q1, q2⟩
  · obtain ⟨n1, n2⟩ := He.ba hn
    exact ⟨of_decide_eq_true n1, of_decide_eq_true n2⟩
theorem exf (X : K.In h) (G : h.Ns mainGlobals mg) (c : SaysO fa fn mt exK K) : ExF Pr K mg := by
  have b := He.ba (He.ba c.x).2
  obtain ⟨b0, b1⟩ := He.ba b.1
  have e0 := b1
  have c0 : ClsAt Pr K mg "BadSchema" "BadSchema.__init__" s_BadSchema___init__ [("at" : Str)] := excB_ok X G b0 e0 (by decide) (c.mth (d := m_BadSchema) (List.mem_of_getElem? (i := 0) rfl)) ib_BadSchema
  exact ⟨c0, He.glo_ok X G (c.d.fact 55 (f := .glo "BadSchema") rfl), He.free_ok X G (c.d.fact 15 (f := .free "bool") rfl), He.exm_ok (c.d.fact 56 (f := .exm "BadSchema" "BadSchema" true) rfl)⟩
theorem facts {w : World} {f : Addr} (X : K.In h) (G : h.Ns mainGlobals mg) (hfa : mg ("law" : Str) = some (.ref f)) (c : SaysO fa fn mt exK K) :
    ∃ fd : FuncData, (∀ (s : Shared) (v : Value), BindsTo s fd ⟨[v], []⟩ [(("_law_script" : Str), v)]) ∧ ∀ base : Heap, K.In base → base.Ns mainGlobals mg → FnG Pr w K mg base 7 f fd [("_law_script" : Str)] (spLaw K) := by
  obtain ⟨fd, F⟩ := c.d.def_ 21 (d := d_law) rfl
  have e := hfa.symm.trans (He.glo_ok X G (c.d.fact 37 (f := .glo "law") rfl))
  cases e
  have b := FunD.bindsA (ps := [("_law_script" : Str)]) F fun _ _ _ _ _ _ us hl => match us, hl with | [_], _ => rfl
  have T := blt X G c
  have M := scc X G c
  have S := scs X G c
  have SI := sci c
  have C := exf X G c
  refine ⟨fd, fun s v => b s [v] rfl, fun base _ _ => ?_⟩
  have F1 := ok_is_word (P := Pr) (w := w) (base := base) (t_is_word X G c) T M
  have F2 := ok_named (t_named_tables X G c) T M F1
  have F3 := ok_col (t_column_of X G c) T M F1
  have F4 := ok_read (t_read_tables X G c) T M C F1 F2 F3
  have G1 := ok_init (t_Schema___init__ c) T M S C F4
  have G2 := ok_columns (P := Pr) (w := w) (base := base) (t_Schema_columns c) T M S
  have L1 := ok_draw (P := Pr) (w := w) (K := K) (base := base) (t_law_draw X G c) T
  have L2 := ok_of (t_law_of X G c) T L1
  have L3 := ok_letters (P := Pr) (w := w) (K := K) (base := base) (t_law_letters X G c) T
  have L4 := ok_word (t_law_word X G c) T L1 L3
  have L5 := ok_tables (t_law_tables X G c) T L1 L2 L4
  have L6 := ok_lines (P := Pr) (w := w) (base := base) (t_law_lines X G c) T
  have N1 := ok_lw (P := Pr) (w := w) (base := base) (t_law_is_word X G c) T M
  have N2 := ok_lc (t_law_is_column X G c) T N1
  have N3 := ok_odd (t_law_odd_word X G c) T L2 L4
  have N4 := ok_lch (t_law_line_changed X G c) T L1 N3
  have N5 := ok_more (t_law_more X G c) T L1 L4
  have N6 := ok_ch (t_law_changed X G c) T L1 N5 N4
  have N7 := ok_rdg (t_law_reading X G c) T M N1 N2
  have N8 := ok_out (t_law_outcome X G c) T M S C G1
  exact ok_law F T M S C (ok_pool (t_law_pool X G c) T) L1 L2 L5 L6 N6 N7 N8 G2
end
end Ow
open PySem PySem.W PySem.Calls PyProof.Rows
theorem PySem.Challenge.cw_owedrebuilds_k03_schemas_refused_holds : PySem.Challenge.rw_owedrebuilds_k03_schemas_refused.Holds := by
  w_on; o_law
  refine HandSHeadRun.head_any (r := Ow.R) (q := view Ow.R.prog [37]) (H := Ow.hk) (ob := Ow.ob) (M := 100000) (loose := Ow.nms) (d := HandSHeadRun.topDef Ow.R.prog 37) (kwd := []) Ow.ob_eq
    (by kernel_rfl) (fun s => by kernel_rfl) Ow.run (by kernel_rfl) (by kernel_rfl) (by kernel_rfl) (by rfl) (by first | assumption | decide +kernel) (by decide +kernel) ⟨rfl, rfl, rfl, rfl, rfl, by decide +kernel⟩ ?hw ?hc
  case hw => w_witness2
  case hc =>
    refine Ow.walk_end (l := PySem.Challenge.rw_owedrebuilds_k03_schemas_refused) (n := 63) (k := 7) (x := "_law_script") rfl (by decide) (by kernel_rfl) ⟨rfl, by decide, by decide⟩ ?F
    intro w mg fa h Y G hmg0
    obtain ⟨K, KX, c⟩ := Y
    have hmg : mg ("law" : PySem.Str) = some (.ref fa) := by
      have e : (HandSHeadRun.topDef Ow.R.prog 37).name = ("law" : PySem.Str) := by kernel_rfl
      rw [← e]
      exact hmg0
    obtain ⟨fd, hb, hF⟩ := Ow.facts (w := w) KX G hmg c
    exact ⟨K, fd, Ow.spLaw K, KX, hb, fun H a ns hl _ _ hS => ⟨a, ns, rfl, hS, hl, fun _ => rfl⟩, hF⟩
