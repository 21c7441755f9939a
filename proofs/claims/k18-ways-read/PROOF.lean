import PyProof.Rows.All
import Wide.All
import OpenK.AllK
import Wide.FinOn
import HandS.ForMost
import HandS.Wide
import HandS.Defaults
import HandS.EndBits
import HandS.HeadHook2
import HandS.Head2
import HandS.Conv
import HandS.Walk
import HandS.IsInst
import PyProof.InstNe
import KE.KCallOwn
import HandS.Deep
import KE.KFromBytes
import KE.KExcIs
import HandS.ExcInit
import HandS.ExcSuper
import KE.KSuperObj
import KE.KSuper
import HandS.Nested
import HandS.HeadWalk
import HandS.ExcField
import HandS.Exc
import HandS.ExcOwn
import HandS.WordsExc
import HandS.TryMany
import HandS.Strs
import HandS.Zip
import HandS.Property
import HandS.ClsMeth
import HandS.Star
import HandS.CallLocal
import HandS.Style
import HandS.RaiseMore
import PySem.Challenge.RW_owedrebuilds_k18_ways_read
set_option Elab.async false
set_option linter.all false
set_option maxRecDepth 100000
set_option maxHeartbeats 4000000

/-! Ow.L1: defs by name, powers of great ints, repr, the end of a law whose own body calls repr, a Hook with one more Bool -/
namespace Ow
open PySem PySem.Spec PyProof.Rows L2
/-! ### defs by name -/
abbrev FnP (K : PySem.W.Frag) (x : Str) (st : Stmt) (f : Addr) (fd : FuncData) : Prop := FunD K x x (defArgs st) (defBody st) (defScope st) [] [] f fd
/-- the module's name x stands for the def st -/
def TopD (K : PySem.W.Frag) (mg : Str → Option Value) (x : Str) (st : Stmt) : Prop := ∃ f fd, FnP K x st f fd ∧ mg x = some (.ref f)
/-- the module's name x stands for a def that keeps the promise sp -/
def FnAt (P : Program) (w : World) (K : PySem.W.Frag) (mg : Str → Option Value) (base : Heap) (x : Str) (ps : List Str) (k : Nat) (sp : Sp) : Prop :=
  ∃ f fd, mg x = some (.ref f) ∧ PySem.W.keepIn K (.ref f) = true ∧ Binds K fd ps [] ∧ FnOk P w K mg base CX0 k f fd ps sp
section
variable {P : Program} {w : World} {K : PySem.W.Frag} {mg : Str → Option Value} {base : Heap}
theorem fn_at {x : Str} {st : Stmt} {N ps : List Str} {k : Nat} {sp : Sp} (T : TopD K mg x st) (S : FnScope N ps (defScope st))
    (hb : ∀ (kV doc pm : Value) (an : Option Addr) (cdv ct : Value) (us : List Value), us.length = ps.length → bindArgs (PySem.W.fnOf x x (defArgs st) (defBody st) (defScope st) .none kV doc pm an cdv ct) ⟨us, []⟩ = pure (ps.zip us))
    (len : ∀ vs H Q E, sp vs H Q E → vs.length = ps.length)
    (hbody : ∀ (f : Addr) (cdv : Value) (A : Around) (outer : List Env) (s : Shared) (H : Hp) (vs : List V) (Q : VK) (E : XK), Room k (A.deeper (envOfC x (defScope st) s.heap.objs.size f cdv)) → sp vs H Q E →
      ∃ t, PSs (cxOf CX0 P w K mg base N x (defScope st) f cdv A outer s H E).nox (defBody st) t ∧ t { nx := fun _ H' => Q .non H', rt := Q } (start N vs) H) : FnAt P w K mg base x ps (k + 1) sp := by
  obtain ⟨f, fd, F, hm⟩ := T
  refine ⟨f, fd, hm, F.kp, F.bindsN hb, F.ok S len fun cdv A outer s H vs Q E hr h => ?_⟩
  obtain ⟨t, h1, h2⟩ := hbody f cdv A outer s H vs Q E hr h
  exact ⟨t, h1.nox, h2⟩
theorem FnAt.mono {x : Str} {ps : List Str} {j k : Nat} {sp : Sp} (F : FnAt P w K mg base x ps j sp) (h : j ≤ k) : FnAt P w K mg base x ps k sp := by
  obtain ⟨f, fd, h1, h2, h3, h4⟩ := F
  exact ⟨f, fd, h1, h2, h3, h4.mono h⟩
end
section
variable {X : Cx} {x : Str} {p pos : Pos} {e : Expr} {es : List Expr} {t : TA} {ps : List Str} {k : Nat} {sp : Sp}
theorem pe_fn (F : FnAt X.prog X.w X.K X.mg X.base x ps k sp) (hr : Room k X.A) (hg : Gl X x) (ha : PA X (e :: es) t) (hdb : (x == ("__debug__" : Str)) = false := by decide) (he : starEach (e :: es) X.env = (false, eval e X.env) :: starEach es X.env := by rfl)
    (hpl : (backTo pos (starEach es X.env)).any (·.1) = false := by rfl) : PE X (.Call (.Name x p) (e :: es) [] pos) (tCall sp [] E0 t) := by
  obtain ⟨f, fd, h1, h2, h3, h4⟩ := F
  exact pe_call h4 hr hg h1 h2 h3 .nil pass0 ha hdb he hpl
end
/-! ### powers -/
def CPowW (i j : Int) : Prop := 0 ≤ j ∧ (Builtin.Int.intBits i : Int) * j ≤ 2 ^ 27
theorem op_powW {X : Cx} : OpR X (binaryOp .Pow) (rI CPowW fun i j => .int (i ^ j.toNat)) := opI fun _ _ _ _ _ _ _ hc q => PyProof.Rows.pow_int hc.1 hc.2 q
theorem intBits_lt {i : Int} {n : Nat} (h : i.natAbs < 2 ^ n) (h0 : 0 < n) : Builtin.Int.intBits i ≤ n := by
  have e := PySem.Flt.log2_lt_of h0 h
  unfold Builtin.Int.intBits
  split <;> omega
theorem powW {i j : Int} {n : Nat} (h : i.natAbs < 2 ^ n) (h0 : 0 < n) (hj : 0 ≤ j) (hn : (n : Int) * j ≤ 2 ^ 27) : CPowW i j := by
  refine ⟨hj, Int.le_trans (Int.mul_le_mul_of_nonneg_right ?_ hj) hn⟩
  exact Int.ofNat_le.mpr (intBits_lt h h0)
/-! ### repr -/
def rRep (K : PySem.W.Frag) : List V → Hp → VK → Prop := fun xs H Q => ∃ (a : Addr) (d : PyData), xs = [.ref a] ∧ Dp K H (.ref a) d ∧ d.showable = true ∧ d.hasDict = false ∧ d.depth ≤ 64 ∧ d.shown.length ≤ sizeLine ∧ Q (.str d.shown) H
theorem call_rep {X : Cx} (hg : X.A.guards = some []) (hu : X.A.units + 65 < cLine) : CallR X (.builtin "repr") (rRep X.K) := by
  intro pins s σ H xs us Q I r h
  obtain ⟨a, d, rfl, hd, h1, h2, h3, h4, q⟩ := h
  cases r with
  | cons rx rr =>
    cases rr
    cases rx
    obtain ⟨as, r1⟩ := Dp.reads I d (.ref a) (.ref a) hd rfl
    exact repr_of_reads' r1 h1 (PyData.noDict_hsm h2) hg (by omega) (fun _ _ e => e) (fun h' u tk hk => ⟨.str d.shown, H, I.kept (t' := tk) hk, ⟨u, rfl⟩, q⟩) h4
/-! ### a def run where nothing is being shown -/
section
variable {P : Program} {w : World} {K : PySem.W.Frag} {mg : Str → Option Value} {base : Heap}
def FnG (P : Program) (w : World) (K : PySem.W.Frag) (mg : Str → Option Value) (base : Heap) (k : Nat) (f : Addr) (fd : FuncData) (ps : List Str) (sp : Sp) : Prop :=
  ∀ (A : Around) (outer : List Env) (s : Shared) (H : Hp) (args : Args) (us : List Value) (vs : List V) (Q : VK), A.guards = some [] → Room k A → Env0 P w K mg base A outer s H → BindsTo s fd args (ps.zip us) → Vals vs us → sp vs H Q E0 →
    codeAny (model P w) A (.call (.ref f) args) (CR CX0 outer P w H s Q E0) s
theorem fnG_of {x : Str} {st : Stmt} {f : Addr} {fd : FuncData} {N ps : List Str} {k : Nat} {sp : Sp} (F : FnP K x st f fd) (S : FnScope N ps (defScope st)) (len : ∀ vs H Q E, sp vs H Q E → vs.length = ps.length)
    (hbody : ∀ (cdv : Value) (A : Around) (outer : List Env) (s : Shared) (H : Hp) (vs : List V) (Q : VK), (A.deeper (envOfC x (defScope st) s.heap.objs.size f cdv)).guards = some [] → Room k (A.deeper (envOfC x (defScope st) s.heap.objs.size f cdv)) → sp vs H Q E0 →
      ∃ t, PSs (cxOf CX0 P w K mg base N x (defScope st) f cdv A outer s H E0).nox (defBody st) t ∧ t { nx := fun _ H' => Q .non H', rt := Q } (start N vs) H) : FnG P w K mg base (k + 1) f fd ps sp := by
  intro A outer s H args us vs Q hg hr e0 hb r hsp
  let sp' : Sp := fun vs' H' Q' E' => vs' = vs ∧ H' = H ∧ sp vs H Q' E0
  obtain ⟨oc, od, dV, kV, doc, pm, an, cdv, ct, osl, rfl, lk, hcd, _, _⟩ := F.ex
  have KX : K.In s.heap := e0.mod.kin.keeps fun b o e => (e0.bs b o e).1
  have lim : s.heap.NoLimit := e0.mod.nolimit.keeps fun b o e => (e0.bs b o e).1
  have hl := len _ _ _ _ hsp
  have hkind : ∀ y ∈ ps.zip us, (defScope st).names.lookup y.1 = some .local ∨ ((defScope st).names.lookup y.1 = some .cell ∧ ((cellsFrom (s.heap.objs.size + 1) (defScope st).names []).lookup y.1).isSome = true) := fun ⟨n, v⟩ hy => by
    rcases S.par n (List.of_mem_zip hy).1 with q | q
    · exact .inl q
    · exact .inr ⟨q, PySem.W.cellsFrom_some _ _ _ (.inl q)⟩
  refine codeAny_call_function hr.depth (KX _ _ lk) rfl S.co S.gen rfl (PySem.W.codeRec_of KX hcd) (hb _ _ _ _ ?_)
  refine wpAny_newFunctionEnv_cells S.kind hkind fun env he s1 z => ?_
  subst he
  refine ⟨lim.keeps z.toInCall.keep, codeAny_func ?_⟩
  obtain ⟨t, ht, hq⟩ := hbody cdv A outer s H vs Q hg (hr.deeper _) hsp
  have I : Inv (cxOf CX0 P w K mg base N x (defScope st) f cdv A outer s H E0) [] (start N vs) H s1 := inv_start S hr.hd e0 hl r z
  refine wpAny_mono (ht.nox.run [] s1 (start N vs) H _ I hq) (fun fl s' hs => ?_) fun e s' hs => hs
  cases fl with
  | ret u =>
    obtain ⟨v, σ', H', J, rv, q⟩ := hs
    exact ⟨v, H', J.os, J.bare, J.base, J.hok, rv, q⟩
  | next =>
    obtain ⟨σ', H', J, q⟩ := hs
    exact ⟨.non, H', J.os, J.bare, J.base, J.hok, rfl, q⟩
  | brk =>
    obtain ⟨_, _, _, q⟩ := hs
    exact False.elim q
  | cont =>
    obtain ⟨_, _, _, q⟩ := hs
    exact False.elim q
end
end Ow
/-! ### readings, one step -/
namespace Ow
open PySem PySem.Spec L2
section
variable {t ta tb : TE} {g : TG} {u : TS} {D : Ends} {σ : L2.St} {H : Hp} {Q : VK} {r : R2} {i : Nat} {v : V}
theorem as_ (h : t σ H fun v H1 => g v σ H1 (u D)) : tSeq (tAsg t g) u D σ H := h
theorem as1_ (h : t σ H fun v H1 => g v σ H1 D.nx) : tAsg t g D σ H := h
theorem ret_ (h : t σ H D.rt) : tRet t D σ H := h
theorem op_ (h : ta σ H fun x H1 => tb σ H1 fun y H2 => r x y H2 Q) : tOp r ta tb σ H Q := h
theorem var_ (e : σ[i]? = some (some v)) (h : Q v H) : tVar i σ H Q := ⟨v, e, h⟩
end
end Ow
namespace Ow
open PySem PySem.Spec L2
theorem lc_over {K : PySem.W.Frag} {L : Addr} {g : TG} {tt : TT} {te : TE} {vs : List Nat} {σ : L2.St} {H : Hp} {Q : VK} {i : Nat} (e : σ[i]? = some (some (.ref L))) (hx : ∃ xs, SqL K H L xs) (h : tLc (fun _ H1 R => R (Itl K L) H1) g tt te vs σ H Q) : tLc (iList K (tVar i)) g tt te vs σ H Q := ⟨_, e, L, rfl, hx, h⟩
theorem pg_tupK {X : Cx} {K : PySem.W.Frag} {es : List Expr} {k : Nat} {t : TGs} {n : Nat} {pos : Pos} (hc : X.calm = true) (h : PGs X es t) (hK : X.K = K := by rfl)
    (hn : (assignEach es X.env).length = n := by rfl) (hst : (assignEach es X.env).findIdx? (·.1) = none := by rfl) : PG X (.Tuple es k pos) (gTup K n t) := by
  subst hK
  exact pg_tup hc h hn hst
end Ow
namespace Ow
open PySem PySem.Spec L2
theorem yes_ {σ : L2.St} {H : Hp} {A B : Hp → Prop} (h : A H) : tYes σ H (fun b H3 => if b = true then A H3 else B H3) := by
  show if true = true then A H else B H
  rw [if_pos rfl]
  exact h
end Ow

/-! Ow.L2: the end of a law; the Hook -/
namespace Ow
open PySem PySem.Spec PyProof.Rows L2
theorem law_end {P : Program} {w : World} {K : PySem.W.Frag} {mg mb : Str → Option Value} {k : Nat} {fa a : Addr} {fd : FuncData} {x : Str} {sp : Sp} {s1 : Shared} {vs : List Value} {ns : List Int}
    (KX : K.In s1.heap) (hns : s1.heap.Ns mainGlobals mg) (hb : s1.heap.Ns builtinsNs mb) (hbb : ∀ x : Str, x ≠ "__name__" → mb x = bootBuiltins x) (hlim : s1.heap.NoLimit) (hg : s1.gens = #[])
    (ha : s1.heap.get? a = some { cls := .type "list", data := .seq vs.toArray }) (hi : IntsAre vs ns) (hl : ns.length ≤ sizeLine) (hr : Room k callerA)
    (F : ∀ base : Heap, K.In base → base.Ns mainGlobals mg → FnG P w K mg base k fa fd [x] sp) (hbind : ∀ (s : Shared) (u : Value), BindsTo s fd ⟨[u], []⟩ [(x, u)])
    (hsp : ∀ H : Hp, Only H → SqL K H a (ns.map V.int) → sp [.ref a] H (fun v _ => v = .bl true) E0) :
    codeAny (model P w) callerA (.call (.ref fa) ⟨[.ref a], []⟩) (fun r s' => r = .ok (.ret (.bool true)) ∧ OldK s1.heap s'.heap ∧ s'.os = s1.os ∧ AllBare s'.gens) s1 := by
  have rv := vals_ints hi
  have lenV := hi.length
  have core : ∀ H : Hp, Only H → SqL K H a (ns.map V.int) → HOk P w H s1.heap → (∀ b, H b ≠ none → b = a) → (H a ≠ none → K.lookup a = none) →
      codeAny (model P w) callerA (.call (.ref fa) ⟨[.ref a], []⟩) (fun r s' => r = .ok (.ret (.bool true)) ∧ OldK s1.heap s'.heap ∧ s'.os = s1.os ∧ AllBare s'.gens) s1 := by
    intro H hO hS hok hA hK
    have to_base : ∀ {b : Addr} {o : Obj}, s1.heap.get? b = some o → H b = none → (hidT s1.heap H).get? b = some o := fun e n => hidT_get e n
    have only_a : ∀ {b : Addr} {u : HO}, H b = some u → b = a := fun {b u} q => hA b (by rw [q]; simp)
    have no_dict : ∀ {b : Addr} {o : Obj} {es : Array DictEntry} {ep : Nat}, s1.heap.get? b = some o → o.data = .dict es ep → H b = none := fun {b o es ep} e d => by
      cases q : H b with
      | none => rfl
      | some u =>
        rw [only_a q, ha] at e
        cases e
        cases (show Data.seq vs.toArray _ = Data.dict es ep from d)
    have ns_base : ∀ {b : Addr} {m : Str → Option Value}, s1.heap.Ns b m → (hidT s1.heap H).Ns b m := fun {b m} ⟨o, es, ep, e, d, r⟩ => ⟨o, es, ep, to_base e (no_dict e d), d, r⟩
    have k_base : K.In (hidT s1.heap H) := fun b o e => to_base (KX b o e) (by
      cases q : H b with
      | none => rfl
      | some u =>
        have eb := only_a q
        subst eb
        rw [hK (by rw [q]; simp)] at e
        cases e)
    have hM : Mod K mg (hidT s1.heap H) := ⟨k_base, ns_base hns, ⟨mb, ns_base hb, hbb⟩, let ⟨mc, h1, h2⟩ := hlim; ⟨mc, ns_base h1, h2⟩⟩
    have e0 : Env0 P w K mg (hidT s1.heap H) callerA [] s1 H := ⟨rfl, hM, fun b o e => of_hidT e, Nat.le_of_eq (hidT_size _ _), trivial, fun b hb => absurd (show b ∈ ([] : List Addr) from hb) (by simp), hok, .of_eq hg⟩
    refine codeAny_mono (F _ k_base (ns_base hns) callerA [] s1 H ⟨[.ref a], []⟩ [.ref a] [.ref a] _ rfl hr e0 (hbind s1 (.ref a)) (.cons rfl .nil) (hsp H hO hS)) fun r s' h => ?_
    cases r with
    | error e => exact False.elim h
    | ok fl =>
      cases fl with
      | next => exact False.elim h
      | brk => exact False.elim h
      | cont => exact False.elim h
      | ret u =>
        obtain ⟨v, H', os, bare, un, hok', r', q⟩ := h
        have q' : v = .bl true := q
        subst q'
        obtain rfl : u = Value.bool true := r'
        refine ⟨rfl, OldK.of_keep fun b o e => ?_, os, bare⟩
        cases q : H b with
        | none => exact un.keep b o e q (fun z => absurd (show b ∈ ([] : List Addr) from z) (by simp)) (by simp)
        | some u =>
          rcases hO b with z | ⟨ob, xs, z⟩
          · rw [q] at z
            cases z
          · obtain ⟨e1, _⟩ := hok b _ z
            obtain ⟨e2, _⟩ := hok' b _ (un.frzs b ob _ z)
            rw [e] at e1
            cases e1
            exact e2
  cases hk : K.lookup a with
  | some o =>
    have e := KX a o hk
    rw [ha] at e
    cases e
    exact core (fun _ => none) (fun _ => .inl rfl) (.inr ⟨_, vs.toArray, _, hk, rfl, rfl, rfl, by rw [List.size_toArray, lenV]; exact hl, by simpa using rv⟩) (fun b u z => nomatch (show (none : Option HO) = some u from z)) (fun b z => absurd rfl z) fun z => absurd rfl z
  | none =>
    have h1 : ∀ b, b = a → (fun b => if b = a then some (HO.frz { cls := .type "list", data := .seq vs.toArray } (.lst (ns.map V.int))) else none) b = some (HO.frz { cls := .type "list", data := .seq vs.toArray } (.lst (ns.map V.int))) := fun b hb => if_pos hb
    have h2 : ∀ b, ¬ b = a → (fun b => if b = a then some (HO.frz { cls := .type "list", data := .seq vs.toArray } (.lst (ns.map V.int))) else none) b = none := fun b hb => if_neg hb
    refine core (fun b => if b = a then some (HO.frz { cls := .type "list", data := .seq vs.toArray } (.lst (ns.map V.int))) else none) (fun b => ?_) (.inl (.inr ⟨_, h1 a rfl⟩)) (fun b u z => ?_) (fun b z => ?_) fun _ => hk
    · by_cases hb : b = a
      · exact .inr ⟨_, _, h1 b hb⟩
      · exact .inl (h2 b hb)
    · by_cases hb : b = a
      · have z' := (h1 b hb).symm.trans z
        cases z'
        subst hb
        exact ⟨ha, by rw [List.length_map]; exact hl, vs, _, rv, ha⟩
      · have z' := (h2 b hb).symm.trans z
        cases z'
    · by_cases hb : b = a
      · exact hb
      · exact absurd (h2 b hb) z
theorem walk_end {l : PySem.W.OpenLaw} {n k : Nat} {q : Program} {loose : List Str} {XP : (Str → Option Value) → Heap → Prop} {YP : World → Heap → Prop} {d : DefRec} {x : Str}
    (hn : l.most = some n) (hn2 : n ≤ sizeLine) (hdf : d.params.defaults = []) (hr : Room k callerA)
    (F : ∀ (w : World) (mg : Str → Option Value) (fa : Addr) (h : Heap), YP w h → h.Ns mainGlobals mg → mg d.name = some (.ref fa) →
      ∃ (K : PySem.W.Frag) (fd : FuncData) (sp : Sp), K.In h ∧ (∀ (s : Shared) (u : Value), BindsTo s fd ⟨[u], []⟩ [(x, u)]) ∧
        (∀ (H : Hp) (a : Addr) (ns : List Int), ns.length ≤ n → (∀ z ∈ ns, Builtin.Int.intBits z ≤ 1048576) → Only H → SqL K H a (ns.map V.int) → sp [.ref a] H (fun v _ => v = .bl true) E0) ∧
        ∀ base : Heap, K.In base → base.Ns mainGlobals mg → FnG l.prog w K mg base k fa fd [x] sp) :
    PySem.W.WalkO q loose XP YP l.row.toRowW d [] (fun f vs => PySem.call f vs) := by
  refine Att.attach_callB hn hdf fun w s₀ s₁ mg mb fa o pm cd doc a vs ns G Y ho hd hcd hmg hobj hints hlen hbits hg => ?_
  obtain ⟨K, fd, sp, KX, hb, hsp, hF⟩ := F w mg fa _ Y G.T.g hmg
  exact law_end KX G.T.g G.T.b G.T.builtins G.T.nolimit hg hobj hints (Nat.le_trans hlen hn2) hr hF hb fun H hO hS => hsp H a ns hlen hbits hO hS
/-! ### the Hook -/
/-- a def with a closure: name, qualified name, parameters, body, scope -/
abbrev FnC : Type := Option (Str × Str × Arguments × FuncBody × Scope)
def fnC (K : PySem.W.Frag) (a : Addr) : FnC := match K.lookup a with
  | some ⟨_, _, .func fd, _⟩ => some (fd.name, fd.qualname, fd.params, fd.body, fd.scope)
  | _ => none
/-- a method of a class: the class's name, the method's name, its text -/
structure MthD where
  cls : Str
  name : Str
  qual : Str
  st : Stmt
def MthD.val (d : MthD) : FnC := some (d.name, d.qual, defArgs d.st, .stmts (defBody d.st), defScope d.st)
abbrev AlO : Type := He.AlD × List FnC × Bool
def asO (g : Addr → Option Obj) (n : Nat) : List Addr := He.asD g n ++ [cStatics]
def obsO (n : Nat) (fa : List He.Fa) (fn : List He.DefD) (mt : List MthD) (ex : PySem.W.Frag → Bool) (g : Addr → Option Obj) : AlO :=
  (He.obsD fa fn (He.frG g (asO g n)), mt.map fun d => fnC (He.frG g (asO g n)) (He.ma (He.frG g (asO g n)) (He.ga (He.frG g (asO g n)) d.cls) d.name), ex (He.frG g (asO g n)))
def valO (fn : List He.DefD) (mt : List MthD) : AlO := (He.valD fn, mt.map MthD.val, true)
structure SaysO (fa : List He.Fa) (fn : List He.DefD) (mt : List MthD) (ex : PySem.W.Frag → Bool) (K : PySem.W.Frag) : Prop where
  d : He.SaysD fa fn K
  m : mt.map (fun d => fnC K (He.ma K (He.ga K d.cls) d.name)) = mt.map MthD.val
  x : ex K = true
def hookO (n : Nat) (fa : List He.Fa) (fn : List He.DefD) (mt : List MthD) (ex : PySem.W.Frag → Bool) : PySem.W.Hook where
  α := AlO
  obs := fun s => obsO n fa fn mt ex s.heap.get?
  val := fun _ => valO fn mt
  says := fun _ h => ∃ K : PySem.W.Frag, K.In h ∧ SaysO fa fn mt ex K
  of := fun _ _ e => ⟨_, He.frG_in, ⟨congrArg (fun z : AlO => z.1) e, congrArg (fun z : AlO => z.2.1) e, congrArg (fun z : AlO => z.2.2) e⟩⟩
  keeps := fun _ _ _ ⟨K, hK, c⟩ k => ⟨K, PySem.W.Frag.In.keeps hK k, c⟩
theorem obsO_eq {n : Nat} {fa : List He.Fa} {fn : List He.DefD} {mt : List MthD} {ex : PySem.W.Frag → Bool} {g : Addr → Option Obj} {s : Shared} (h : ∀ a, g a = s.heap.get? a) : obsO n fa fn mt ex g = (hookO n fa fn mt ex).obs s := by
  have e : g = s.heap.get? := funext h
  rw [e] <;> rfl
theorem SaysO.mth {fa : List He.Fa} {fn : List He.DefD} {mt : List MthD} {ex : PySem.W.Frag → Bool} {K : PySem.W.Frag} (c : SaysO fa fn mt ex K) {d : MthD} (h : d ∈ mt) : fnC K (He.ma K (He.ga K d.cls) d.name) = d.val := by
  have e := c.m
  rw [List.map_inj_left] at e
  exact e d h
end Ow

/-! Ow.D1: draws: what pool, draw and of promise -/
namespace Ow
open PySem PySem.Spec L2
/-- all but p is as it was -/
def Keep (p : Addr) (H H' : Hp) : Prop := ∀ b o, b ≠ p → H b = some o → H' b = some o
theorem Keep.refl (p : Addr) (H : Hp) : Keep p H H := fun _ _ _ h => h
theorem Keep.trans {p : Addr} {H H1 H2 : Hp} (a : Keep p H H1) (b : Keep p H1 H2) : Keep p H H2 := fun c o n h => b c o n (a c o n h)
theorem Keep.of {p : Addr} {H H' : Hp} (a : Same H H') : Keep p H H' := fun b o _ h => a b o h
theorem keep_upd {p : Addr} {H : Hp} {o : HO} : Keep p H (upd H p o) := fun b u n h => by rw [upd_ne n]; exact h
/-- a pool: three ints, at most n numbers mixed so far -/
def PoolAt (H : Hp) (p : Addr) (n : Nat) : Prop := ∃ a b c : Int, H p = some (.lst [.int a, .int b, .int c]) ∧ 0 ≤ a ∧ 0 ≤ b ∧ b < 2 ^ 100 ∧ 0 ≤ c ∧ c ≤ (n : Int)
theorem PoolAt.mono {H : Hp} {p : Addr} {n m : Nat} (h : PoolAt H p n) (l : n ≤ m) : PoolAt H p m := by
  obtain ⟨a, b, c, h1, h2, h3, h4, h5, h6⟩ := h
  exact ⟨a, b, c, h1, h2, h3, h4, h5, Int.le_trans h6 (Int.ofNat_le.mpr l)⟩
theorem PoolAt.same {H H' : Hp} {p : Addr} {n : Nat} (h : PoolAt H p n) (s : Same H H') : PoolAt H' p n := by
  obtain ⟨a, b, c, h1, h2⟩ := h
  exact ⟨a, b, c, s _ _ h1, h2⟩
theorem PoolAt.ne {H : Hp} {p q : Addr} {n : Nat} (h : PoolAt H p n) (e : H q = none) : q ≠ p := by
  obtain ⟨a, b, c, h1, _⟩ := h
  exact (ne_of_none h1 e).symm
/-- what is new behind, was new ahead -/
theorem Keep.free {p : Addr} {H H' : Hp} {n m : Nat} (k : Keep p H H') (h : PoolAt H p n) (h' : PoolAt H' p m) {q : Addr} (e : H' q = none) : H q = none := by
  cases z : H q with
  | none => rfl
  | some o =>
    rw [k q o (h'.ne e) z] at e
    cases e
def spPool (K : PySem.W.Frag) : Sp := fun vs H Q _ => ∃ (s : Addr) (ns : List Int) (i : Nat), vs = [.ref s, .int (i : Int)] ∧ SqL K H s (ns.map V.int) ∧ i ≤ 1000 ∧ ∀ H' p, H p = none → Same H H' → PoolAt H' p 0 → Q (.ref p) H'
def spDraw : Sp := fun vs H Q _ => ∃ (p : Addr) (n : Nat) (m : Int), vs = [.ref p, .int m] ∧ PoolAt H p n ∧ n < 2 ^ 60 ∧ 0 < m ∧ m.natAbs < 2 ^ 200 ∧ ∀ H' (d : Int), Keep p H H' → PoolAt H' p (n + 1) → 0 ≤ d → d < m → Q (.int d) H'
def spOf (K : PySem.W.Frag) : Sp := fun vs H Q _ => ∃ (p l : Addr) (n : Nat) (xs : List V), vs = [.ref p, .ref l] ∧ PoolAt H p n ∧ n < 2 ^ 60 ∧ SqL K H l xs ∧ l ≠ p ∧ 0 < xs.length ∧ xs.length ≤ 1000 ∧ ∀ H' v, Keep p H H' → PoolAt H' p (n + 1) → v ∈ xs → Q v H'
/-! ### the numbers -/
theorem div_nonneg_of {a m : Int} (h : 0 ≤ a) (h2 : 0 < m) : 0 ≤ a / m := Int.ediv_nonneg h (Int.le_of_lt h2)
theorem mix1 {b c : Int} (h1 : 0 ≤ b) (h2 : b < 2 ^ 100) (h3 : 0 ≤ c) (h4 : c ≤ 2 ^ 61) : 0 ≤ b + 982451653 * c ∧ (b + 982451653 * c).natAbs < 2 ^ 101 := by
  have : (2 : Int) ^ 100 = 1267650600228229401496703205376 := by decide
  have : (2 : Int) ^ 61 = 2305843009213693952 := by decide
  have : (2 : Nat) ^ 101 = 2535301200456458802993406410752 := by decide
  omega
theorem mix2 {x c : Int} (h1 : 0 ≤ x) (h2 : x < 162259276829213363391578010288127) (h3 : 0 ≤ c) (h4 : c ≤ 2 ^ 61) : 0 ≤ x + 32452867 * c ∧ (x + 32452867 * c).natAbs < 2 ^ 108 := by
  have : (2 : Int) ^ 61 = 2305843009213693952 := by decide
  have : (2 : Nat) ^ 108 = 324518553658426726783156020576256 := by decide
  omega
theorem sqL_keep {K : PySem.W.Frag} {H H' : Hp} {p l : Addr} {xs : List V} (h : SqL K H l xs) (n : l ≠ p) (k : Keep p H H') : SqL K H' l xs := by
  rcases h with (h | ⟨o, h⟩) | h
  · exact .inl (.inl (k _ _ n h))
  · exact .inl (.inr ⟨o, k _ _ n h⟩)
  · exact .inr h
/-- the built-ins that the laws call are the built-ins -/
structure Blt (mg : Str → Option Value) : Prop where
  len : mg "len" = none
  abs : mg "abs" = none
  int : mg "int" = none
  range : mg "range" = none
  max : mg "max" = none
  min : mg "min" = none
  isinstance : mg "isinstance" = none
  tuple : mg "tuple" = none
  repr : mg "repr" = none
end Ow

/-! Ow.S1: tuple(d) of a dict; a thing locked for good -/
namespace Ow
open PySem PySem.Spec PyProof.Rows L2
section
variable {prog : Program} {w : World} {A : Around} {E : Value → Shared → Prop} {s : Shared} {T : String} {r d : Addr} {n : Nat} {P : Nat → Value → Prop} {OK : Heap → Prop}
theorem collect_src {Q : List Value → Shared → Prop} (K : PySem.W.KdlSrc prog w T r d n P OK) (hh : A.handled = none) (hok : OK s.heap) (hn : n ≤ sizeLine)
    (hQ : ∀ (h' : Heap) (tk : Nat) (acc : Array Value), (∀ b o, s.heap.get? b = some o → h'.get? b = some o) → ItemsOf P acc n → Q acc.toList { s with heap := h', toks := tk }) :
    wpAny (model prog w) A (collect (.ref r)) Q E s := by
  unfold collect
  refine wpAny_bind (wpAny_runValue (codeAny_builtin F.entry_proto_collect ?_))
  rw [Around.under_plainId F.plain_proto_collect _]
  show wpAny _ A.in1 (newList [] >>= fun l => again (.builtin "list.__iadd__" ⟨[l, .ref r], []⟩)) _ _ s
  refine wpAny_bind (wpAny_newObj_type ?_)
  refine wpAny_pure ⟨plainId_quiet F.plain_list_iadd _, codeAny_builtin F.entry_list_iadd ?_⟩
  rw [Around.under_plainId F.plain_list_iadd _]
  show wpAny _ A.in1 (Builtin.List.listExtendWith (.ref s.heap.objs.size) (.ref r) (.ref s.heap.objs.size)) _ _ _
  have hS : (s.heap.push { cls := .type "list", data := .seq ([] : List Value).toArray }).get? s.heap.objs.size = some { cls := .type "list", data := .seq #[] 0 } := Heap.get?_push_size _ rfl
  have hlt := K.there _ hok
  refine wpAny_mono (PySem.W.kdl_extend (A := A) (R := fun rr s' => rr = .ok (.ret (.ref s.heap.objs.size)) ∧ ∃ (h' : Heap) (tk : Nat) (acc : Array Value) (c' : Nat), s' = { s with heap := h', toks := tk } ∧
      (∀ b o, s.heap.get? b = some o → h'.get? b = some o) ∧ h'.get? s.heap.objs.size = some { cls := .type "list", dict := none, data := .seq acc c', slots := #[] } ∧ ItemsOf P acc n)
    (s := { s with heap := s.heap.push { cls := .type "list", data := .seq ([] : List Value).toArray } }) K hh (K.keep _ _ hok fun b _ o e => Heap.get?_push_of_some _ e) _ (Nat.ne_of_gt hlt.1) (Nat.ne_of_gt hlt.2) _ 0 hS
    (fun h' tk acc c' hk e hi => ⟨rfl, h', tk, acc, c', rfl, fun b o q => hk b o (Nat.ne_of_lt (Heap.lt_size q)) (Heap.get?_push_of_some _ q), e, hi⟩) hn) (fun fin s' h => ?_) (fun e s' h => ?_)
  · cases fin with
    | done f =>
      obtain ⟨e, h', tk, acc, c', rfl, hk, hS', hi⟩ := h
      cases e
      show wpAny _ A (load s.heap.objs.size >>= _) _ _ _
      exact wpAny_bind (wpAny_load hS' (wpAny_pure (hQ h' tk acc hk hi)))
    | again c' =>
      refine ⟨h.1, codeAny_mono h.2 fun rr s'' hr' => ?_⟩
      obtain ⟨rfl, h', tk, acc, c', rfl, hk, hS', hi⟩ := hr'
      show wpAny _ A (load s.heap.objs.size >>= _) _ _ _
      exact wpAny_bind (wpAny_load hS' (wpAny_pure (hQ h' tk acc hk hi)))
  · exact absurd h.1 (by simp)
theorem code_tuple_src {Q₁ : Value → Shared → Prop} (K : PySem.W.KdlSrc prog w T r d n P OK) (hT : T = "dict") (hh : A.handled = none) (hok : OK s.heap) (hn : n ≤ sizeLine)
    (h : ∀ (h' : Heap) (tk : Nat) (acc : Array Value), (∀ b o, s.heap.get? b = some o → h'.get? b = some o) → ItemsOf P acc n →
      Q₁ (.ref h'.objs.size) { s with heap := h'.push { cls := .type "tuple", data := .seq acc }, toks := tk }) :
    codeAny (model prog w) A (.call (.builtin "tuple.__new__") ⟨[.type "tuple", .ref r], []⟩) (wants Q₁ E) s := by
  subst hT
  refine codeAny_of_tree ?_
  show wpAny _ A.in1 (do checkBuiltinCall "tuple.__new__" ⟨[.type "tuple", .ref r], []⟩; again (.builtin "tuple.__new__" ⟨[.type "tuple", .ref r], []⟩)) _ _ s
  refine wpAny_bind (wpAny_of_eq (F.newCall_tuple_1 _) (wpAny_pure ⟨plainId_quiet F.plain_tuple_new _, codeAny_builtin F.entry_tuple_new ?_⟩))
  rw [Around.under_plainId F.plain_tuple_new _]
  have hsub := sub_tuple_self
  have hinit := init_tuple_lookup
  have hmh := madeHere_tuple
  have hTI : s.TypeIs (.ref r) "dict" := K.type s hok
  have hh1 : A.in1.handled = none := hh
  wp_walk using wpAny_typeOf hTI, collect_src (A := A.in1) K hh1 hok hn
  intro h' tk acc hk hacc
  show wpAny _ _ (Builtin.Tuple.tupleExact acc.toList.toArray >>= fun v => ret v) _ _ _
  unfold Builtin.Tuple.tupleExact
  refine wpAny_bind (wpAny_newObj_type ?_ (by show acc.toList.toArray.size ≤ sizeLine; simp only [Array.toArray_toList]; rw [hacc.1]; exact hn))
  refine wpAny_pure ?_
  have e : acc.toList.toArray = acc := by simp
  rw [e]
  exact h h' tk acc hk hacc
theorem call_tuple_src {Q : Value → Shared → Prop} (K : PySem.W.KdlSrc prog w T r d n P OK) (hT : T = "dict") (hh : A.handled = none) (hok : OK s.heap) (hn : n ≤ sizeLine)
    (hQ : ∀ (h' : Heap) (tk : Nat) (acc : Array Value), (∀ b o, s.heap.get? b = some o → h'.get? b = some o) → ItemsOf P acc n →
      Q (.ref h'.objs.size) { s with heap := h'.push { cls := .type "tuple", data := .seq acc }, toks := tk }) :
    wpAny (model prog w) A (call (.type "tuple") [.ref r]) Q E s := by
  refine callType_codes (Q₁ := fun obj s₁ => s₁.TypeIs obj "tuple" ∧ Q obj s₁) F.called_tuple (F.typeCall_tuple_1 _) F.entry_object_init
    (code_tuple_src (A := A.in1) K hT hh hok hn fun h' tk acc hk hacc => ⟨⟨_, Heap.get?_push_size _ rfl, rfl⟩, hQ h' tk acc hk hacc⟩) fun obj s₁ h₁ => ?_
  exact ⟨h₁.1, F.args_object_init_2 obj _, object_init_meets F.called_tuple.init.lookup F.called_tuple.made (by decide) prog w A.in1 _ s₁ ⟨h₁.1, rfl, h₁.2⟩⟩
end
/-- tuple(d): the keys, in order -/
def rTupD : List V → Hp → VK → Prop := fun xs H Q => ∃ p kvs, xs = [.ref p] ∧ Rd H p (.dK kvs) ∧ ∀ q, H q = none → Q (.ref q) (upd H q (.tup (kvs.map fun kv => kV kv.1)))
theorem call_tuple_dK {X : Cx} (hc : X.calm = true) : CallR X (.type "tuple") rTupD := by
  intro pins s σ H xs us Q I r h
  obtain ⟨p, kvs, e, hk, q⟩ := h
  subst e
  obtain ⟨u, eu, rx⟩ := vals1 r
  subst eu
  obtain rfl : u = Value.ref p := rx
  obtain ⟨z, lo, vs, rk, hd⟩ := dk_rd I.hok hk
  obtain ⟨ep, hat⟩ := hd.dictAt
  have hl : kvs.length = vs.length := Paired.length rk
  refine call_tuple_src (PySem.W.kdl_dict (knd := mixKind X.prog X.w) (kvs := vs) (ep := ep) lo) rfl (I.ok.hd hc) hat (by rw [← hl]; exact z) fun h' tk acc' hkeep hacc => ?_
  have I1 : Inv X pins σ H { s with heap := h', toks := tk } := I.kept (t' := tk) hkeep
  refine ⟨.ref h'.objs.size, upd H h'.objs.size (.tup (kvs.map fun kv => kV kv.1)), I1.laid (t' := tk) (fun b o e => Heap.get?_push_of_some _ e) (Nat.le_refl _) (show ObjOk X.prog X.w _ _ _ (.tup (kvs.map fun kv => kV kv.1)) from ⟨?_, acc'.toList, ?_, ?_⟩), rfl, q _ (I1.hok.fresh (Nat.le_refl _))⟩
  · rw [List.length_map]; exact z
  · have el : acc'.toList.length = acc'.size := by simp
    refine vals_of_at (by rw [List.length_map, el, hacc.1, hl]) fun j x w h1 h2 => ?_
    obtain ⟨k, y, hky, hi⟩ := hacc.2 j w (by rw [← Array.getElem?_toList]; exact h2)
    have e1 : (kvs.map (·.1))[j]? = some k := by
      rw [KV.keys rk, List.getElem?_map, hky] <;> rfl
    have e2 : (kvs.map fun kv => kV kv.1)[j]? = some (kV k) := by
      have e3 : (kvs.map fun kv => kV kv.1) = (kvs.map (·.1)).map kV := by rw [List.map_map] <;> rfl
      rw [e3, List.getElem?_map, e1] <;> rfl
    rw [e2] at h1
    cases h1
    exact keyIs_rel hi
  · rw [Array.toArray_toList]; exact IsTup.new _ _
/-- things locked one after another, for good -/
def FrzN : Nat → Hp → (Hp → Prop) → Prop
  | 0, H, q => q H
  | n + 1, H, q => ∃ d u, H d = some u ∧ Mut (some u) ∧ ∀ od, FrzN n (upd H d (.frz od u)) q
def tFrz (t : TE) : TE := fun σ H Q => t σ H fun v H1 => ∃ n, FrzN n H1 (Q v)
section
variable {X : Cx} {pins : List (Addr × Obj)} {σ : L2.St} {s : Shared}
theorem frzN_ok : ∀ {n : Nat} {H : Hp} {q : Hp → Prop}, Inv X pins σ H s → FrzN n H q → ∃ H', Inv X pins σ H' s ∧ q H'
  | 0, H, q, I, h => ⟨H, I, h⟩
  | n + 1, H, q, I, h => by
    obtain ⟨d, u, hd, mu, h⟩ := h
    obtain ⟨od, I1⟩ := I.lock hd mu
    exact frzN_ok I1 (h od)
theorem pe_frz {e : Expr} {t : TE} (h : PE X e t) : PE X e (tFrz t) := by
  refine ⟨fun pins s σ H Q I hw => ?_⟩
  refine thn (h.run pins s σ H _ I hw) fun v s1 ⟨x, H1, I2, r, L, q⟩ => ?_
  obtain ⟨H2, I3, q⟩ := frzN_ok I2 q
  exact ⟨x, H2, I3, r, q⟩
end
end Ow

/-! Ow.S2: schemas in plain Lean: tables, their lines, and the lines read -/
namespace Ow
open PySem PySem.Spec L2 TL
structure Col where
  name : Str
  kind : Str
  tgt : Option Str
  rule : Option Str
abbrev Tab : Type := Str × List Col
def LET : Str := "abcdefghijklmnopqrstuvwxyz"
def BAR : List Str := [("key" : Str), ("self" : Str), ("table" : Str)]
def RUL : List Str := [("refuse" : Str), ("clear" : Str), ("cascade" : Str)]
/-- a word -/
def isW (z : Str) : Bool := decide (1 ≤ z.length) && (decide (z.length ≤ 8) && z.cps.toList.all fun c => decide (c ∈ LET.cps.toList))
def wsOf (line : Str) : List Str := Txt.split line (" " : Str)
def wd (ws : List Str) (i : Nat) : Str := ws.getD i ("" : Str)
def nmOf (line : Str) : Option Str := if ((wsOf line).length == 2) && ((wd (wsOf line) 0 == ("table" : Str)) && isW (wd (wsOf line) 1)) then some (wd (wsOf line) 1) else none
/-- the tables that the lines name -/
def named (ls : List Str) : List Str := ls.filterMap nmOf
/-- a column, read from its words -/
def colOf (ws names : List Str) : Option Col :=
  if ws.length < 2 ∨ isW (wd ws 1) = false ∨ wd ws 1 ∈ BAR then none
  else if ws.length = 2 ∧ (wd ws 0 = ("value" : Str) ∨ wd ws 0 = ("flag" : Str)) then some ⟨wd ws 1, wd ws 0, none, none⟩
  else if ws.length = 4 ∧ wd ws 0 = ("link" : Str) ∧ wd ws 2 ∈ names ∧ wd ws 3 ∈ RUL then some ⟨wd ws 1, ("link" : Str), some (wd ws 2), some (wd ws 3)⟩
  else none
/-- one more column in the last table -/
def addCol : List Tab → Col → Option (List Tab)
  | [], _ => none
  | [(n, cs)], c => if c.name ∈ cs.map Col.name ∨ cs.length = 6 then none else some [(n, cs ++ [c])]
  | t :: t' :: r, c => (addCol (t' :: r) c).map (t :: ·)
def stepT (names : List Str) (ts : List Tab) (ws : List Str) : Option (List Tab) :=
  if wd ws 0 = ("table" : Str) then (if ws.length ≠ 2 ∨ isW (wd ws 1) = false ∨ wd ws 1 ∈ ts.map Prod.fst ∨ ts.length = 5 then none else some (ts ++ [(wd ws 1, [])]))
  else (colOf ws names).bind (addCol ts)
/-- the lines read: the tables, or the number of the first wrong line -/
def readT (names : List Str) : List Str → List Tab → Nat → Except Nat (List Tab)
  | [], ts, _ => .ok ts
  | l :: ls, ts, i => match stepT names ts (wsOf l) with
    | none => .error i
    | some ts' => readT names ls ts' (i + 1)
/-! ### lines -/
def oS (o : Option Str) : Str := o.getD ("" : Str)
def lnC (c : Col) : Str := c.kind ++ (" " : Str) ++ c.name ++ (if c.kind = ("link" : Str) then (" " : Str) ++ oS c.tgt ++ (" " : Str) ++ oS c.rule else ("" : Str))
def lnT (t : Tab) : List Str := (("table " : Str) ++ t.1) :: t.2.map lnC
def linesOf (ts : List Tab) : List Str := ts.flatMap lnT
structure ColOk (names : List Str) (c : Col) : Prop where
  w : isW c.name = true
  nb : c.name ∉ BAR
  k : (c.kind = ("link" : Str) ∧ ∃ t r, c.tgt = some t ∧ c.rule = some r ∧ t ∈ names ∧ r ∈ RUL) ∨ ((c.kind = ("value" : Str) ∨ c.kind = ("flag" : Str)) ∧ c.tgt = none ∧ c.rule = none)
structure TabOk (names : List Str) (t : Tab) : Prop where
  w : isW t.1 = true
  few : t.2.length ≤ 6
  nd : (t.2.map Col.name).Nodup
  cols : ∀ c ∈ t.2, ColOk names c
structure TabsOk (ts : List Tab) : Prop where
  few : ts.length ≤ 5
  pos : 0 < ts.length
  nd : (ts.map Prod.fst).Nodup
  tab : ∀ t ∈ ts, TabOk (ts.map Prod.fst) t
/-! ### words have no blank -/
theorem isW_len {z : Str} (h : isW z = true) : 1 ≤ z.length ∧ z.length ≤ 8 := by
  unfold isW at h
  simp only [Bool.and_eq_true, decide_eq_true_eq] at h
  exact ⟨h.1, h.2.1⟩
theorem isW_low {z : Str} (h : isW z = true) : ∀ c ∈ tl z, 97 ≤ c ∧ c ≤ 122 := by
  unfold isW at h
  simp only [Bool.and_eq_true, decide_eq_true_eq, List.all_eq_true] at h
  intro c hc
  have q : ∀ c ∈ LET.cps.toList, 97 ≤ c ∧ c ≤ 122 := by decide +kernel
  exact q c (h.2.2 c hc)
def Low (z : Str) : Prop := ∀ c ∈ tl z, 97 ≤ c ∧ c ≤ 122
theorem low_lit {z : Str} (h : (tl z).all (fun c => decide (97 ≤ c ∧ c ≤ 122)) = true) : Low z := fun c hc => by simpa using List.all_eq_true.mp h c hc
theorem low_rul {z : Str} (h : z ∈ RUL) : Low z := by
  have q : ∀ z ∈ RUL, (tl z).all (fun c => decide (97 ≤ c ∧ c ≤ 122)) = true := by decide +kernel
  exact low_lit (q z h)
theorem ws_join {parts : List Str} (hne : parts ≠ []) (hp : ∀ p ∈ parts, Low p) : wsOf (Txt.join (" " : Str) parts) = parts := by
  refine TL.split_join (s := 32) (S := []) (by decide +kernel) (by decide +kernel) hne fun p h => ?_
  intro z
  have := hp p h 32 z
  omega
theorem ws_table {n : Str} (h : isW n = true) : wsOf (("table " : Str) ++ n) = [("table" : Str), n] := by
  have e : (("table " : Str) ++ n) = Txt.join (" " : Str) [("table" : Str), n] := by
    rw [join_eq]
    refine ext_tl ?_
    rw [tl_join, tl_append]
    show _ = tl ("table" : Str) ++ (tl (" " : Str) ++ tl n)
    have e2 : tl ("table " : Str) = tl ("table" : Str) ++ tl (" " : Str) := by decide +kernel
    rw [e2, List.append_assoc]
  rw [e]
  refine ws_join (by simp) fun p hp => ?_
  simp only [List.mem_cons, List.not_mem_nil, or_false] at hp
  rcases hp with rfl | rfl
  · exact low_lit (by decide +kernel)
  · exact isW_low h
theorem ws_two {k n : Str} (hk : Low k) (hn : Low n) : wsOf (k ++ (" " : Str) ++ n ++ ("" : Str)) = [k, n] := by
  have e : k ++ (" " : Str) ++ n ++ ("" : Str) = Txt.join (" " : Str) [k, n] := by
    rw [join_eq]
    refine ext_tl ?_
    rw [tl_join, tl_append, tl_append, tl_append]
    show _ = tl k ++ (tl (" " : Str) ++ tl n)
    have e2 : tl ("" : Str) = [] := by decide +kernel
    rw [e2, List.append_nil, List.append_assoc]
  rw [e]
  refine ws_join (by simp) fun p hp => ?_
  simp only [List.mem_cons, List.not_mem_nil, or_false] at hp
  rcases hp with rfl | rfl
  · exact hk
  · exact hn
theorem ws_four {k n t r : Str} (hk : Low k) (hn : Low n) (ht : Low t) (hr : Low r) : wsOf (k ++ (" " : Str) ++ n ++ ((" " : Str) ++ t ++ (" " : Str) ++ r)) = [k, n, t, r] := by
  have e : k ++ (" " : Str) ++ n ++ ((" " : Str) ++ t ++ (" " : Str) ++ r) = Txt.join (" " : Str) [k, n, t, r] := by
    rw [join_eq]
    refine ext_tl ?_
    rw [tl_join]
    show _ = tl k ++ (tl (" " : Str) ++ (tl n ++ (tl (" " : Str) ++ (tl t ++ (tl (" " : Str) ++ tl r)))))
    simp only [tl_append, List.append_assoc]
  rw [e]
  refine ws_join (by simp) fun p hp => ?_
  simp only [List.mem_cons, List.not_mem_nil, or_false] at hp
  rcases hp with rfl | rfl | rfl | rfl
  · exact hk
  · exact hn
  · exact ht
  · exact hr
/-- a good column's line: its words, and what is read of them -/
theorem col_line {names : List Str} {c : Col} (hn : ∀ t ∈ names, isW t = true) (h : ColOk names c) : colOf (wsOf (lnC c)) names = some c ∧ wd (wsOf (lnC c)) 0 ≠ ("table" : Str) := by
  have hw := h.w
  have hb := h.nb
  obtain ⟨nm, kd, tg, ru⟩ := c
  rcases h.k with ⟨e1, t, r, e2, e3, h4, h5⟩ | ⟨e1, e2, e3⟩
  · simp only at e1 e2 e3 hw hb
    subst e1 e2 e3
    have e : wsOf (lnC ⟨nm, ("link" : Str), some t, some r⟩) = [("link" : Str), nm, t, r] := by
      unfold lnC
      simp only [if_true, oS, Option.getD_some]
      exact ws_four (low_lit (by decide +kernel)) (isW_low hw) (isW_low (hn t h4)) (low_rul h5)
    rw [e]
    unfold colOf
    refine ⟨?_, (show ("link" : Str) ≠ ("table" : Str) from by decide)⟩
    rw [if_neg, if_neg, if_pos]
    · rfl
    · exact ⟨rfl, rfl, h4, h5⟩
    · rintro ⟨z, _⟩
      exact absurd z (by simp)
    · rintro (z | z | z)
      · exact absurd z (by simp)
      · have z : isW nm = false := z
        rw [hw] at z
        cases z
      · exact hb z
  · simp only at e1 e2 e3 hw hb
    subst e2 e3
    have e : wsOf (lnC ⟨nm, kd, none, none⟩) = [kd, nm] := by
      unfold lnC
      have ne : ¬ kd = ("link" : Str) := by rcases e1 with rfl | rfl <;> decide
      simp only [if_neg ne]
      refine ws_two ?_ (isW_low hw)
      rcases e1 with rfl | rfl <;> exact low_lit (by decide +kernel)
    rw [e]
    unfold colOf
    refine ⟨?_, ?_⟩
    · rw [if_neg, if_pos]
      · rfl
      · exact ⟨rfl, e1⟩
      · rintro (z | z | z)
        · exact absurd z (by simp)
        · have z : isW nm = false := z
          rw [hw] at z
          cases z
        · exact hb z
    · show ¬ kd = _
      rcases e1 with rfl | rfl <;> decide
theorem nm_table {n : Str} (h : isW n = true) : nmOf (("table " : Str) ++ n) = some n := by
  unfold nmOf
  rw [ws_table h, if_pos]
  · rfl
  · show ((2 == 2) && ((("table" : Str) == ("table" : Str)) && isW n)) = true
    rw [h] <;> decide
theorem nm_col {names : List Str} {c : Col} (hn : ∀ t ∈ names, isW t = true) (h : ColOk names c) : nmOf (lnC c) = none := by
  unfold nmOf
  rw [if_neg]
  intro z
  simp only [Bool.and_eq_true, beq_iff_eq] at z
  exact (col_line hn h).2 z.2.1
theorem named_cols {names : List Str} (hn : ∀ t ∈ names, isW t = true) : ∀ {cs : List Col}, (∀ c ∈ cs, ColOk names c) → (cs.map lnC).filterMap nmOf = []
  | [], _ => rfl
  | c :: cs, h => by
    rw [List.map_cons, List.filterMap_cons, nm_col hn (h c (List.mem_cons_self ..))]
    exact named_cols hn fun d hd => h d (List.mem_cons_of_mem _ hd)
theorem named_lines {names : List Str} (hn : ∀ t ∈ names, isW t = true) : ∀ {ts : List Tab}, (∀ t ∈ ts, TabOk names t) → named (linesOf ts) = ts.map Prod.fst
  | [], _ => rfl
  | t :: ts, h => by
    have ih := named_lines hn (ts := ts) fun d hd => h d (List.mem_cons_of_mem _ hd)
    have ht := h t (List.mem_cons_self ..)
    unfold named linesOf at ih ⊢
    rw [List.flatMap_cons, List.filterMap_append, ih]
    unfold lnT
    rw [List.filterMap_cons, nm_table ht.w, named_cols hn ht.cols]
    rfl
theorem addCol_app : ∀ (acc : List Tab) (n : Str) (cs : List Col) (c : Col), c.name ∉ cs.map Col.name → cs.length < 6 → addCol (acc ++ [(n, cs)]) c = some (acc ++ [(n, cs ++ [c])])
  | [], n, cs, c, h1, h2 => by
    show (if _ then none else _) = _
    rw [if_neg]
    · rfl
    · rintro (z | z)
      · exact h1 z
      · omega
  | [t], n, cs, c, h1, h2 => by
    show (addCol ([] ++ [(n, cs)]) c).map (t :: ·) = _
    rw [addCol_app [] n cs c h1 h2] <;> rfl
  | t :: t' :: r, n, cs, c, h1, h2 => by
    show (addCol (t' :: r ++ [(n, cs)]) c).map (t :: ·) = _
    rw [addCol_app (t' :: r) n cs c h1 h2] <;> rfl
theorem read_cols {names : List Str} (hn : ∀ t ∈ names, isW t = true) (acc : List Tab) (n : Str) (more : List Str) : ∀ (cs done : List Col) (i : Nat), (∀ c ∈ cs, ColOk names c) → ((done ++ cs).map Col.name).Nodup → (done ++ cs).length ≤ 6 →
    ∃ j, readT names (cs.map lnC ++ more) (acc ++ [(n, done)]) i = readT names more (acc ++ [(n, done ++ cs)]) j
  | [], done, i, _, _, _ => ⟨i, by rw [List.append_nil] <;> rfl⟩
  | c :: cs, done, i, h, hd, hl => by
    obtain ⟨h1, h2⟩ := col_line hn (h c (List.mem_cons_self ..))
    have e1 : stepT names (acc ++ [(n, done)]) (wsOf (lnC c)) = some (acc ++ [(n, done ++ [c])]) := by
      unfold stepT
      rw [if_neg h2, h1]
      refine addCol_app acc n done c (fun z => ?_) ?_
      · rw [List.map_append, List.map_cons, List.nodup_append] at hd
        exact hd.2.2 _ z _ (List.mem_cons_self ..) rfl
      · rw [List.length_append, List.length_cons] at hl
        omega
    have e2 : done ++ c :: cs = (done ++ [c]) ++ cs := by rw [List.append_assoc] <;> rfl
    rw [e2] at hd hl
    obtain ⟨j, hj⟩ := read_cols hn acc n more cs (done ++ [c]) (i + 1) (fun d hd => h d (List.mem_cons_of_mem _ hd)) hd hl
    refine ⟨j, ?_⟩
    show readT names (lnC c :: (cs.map lnC ++ more)) _ i = _
    rw [readT, e1, e2]
    exact hj
theorem read_tabs {names : List Str} (hn : ∀ t ∈ names, isW t = true) : ∀ (ts acc : List Tab) (i : Nat), (∀ t ∈ ts, TabOk names t) → ((acc ++ ts).map Prod.fst).Nodup → (acc ++ ts).length ≤ 5 → readT names (linesOf ts) acc i = .ok (acc ++ ts)
  | [], acc, i, _, _, _ => by rw [List.append_nil] <;> rfl
  | (n, cs) :: ts, acc, i, h, hd, hl => by
    have ht := h (n, cs) (List.mem_cons_self ..)
    have e1 : stepT names acc (wsOf (("table " : Str) ++ n)) = some (acc ++ [(n, [])]) := by
      rw [ws_table ht.w]
      unfold stepT
      rw [if_pos (by rfl), if_neg]
      · rfl
      · rintro (z | z | z | z)
        · exact z rfl
        · have z : isW n = false := z
          rw [ht.w] at z
          cases z
        · rw [List.map_append, List.map_cons, List.nodup_append] at hd
          exact hd.2.2 _ z _ (List.mem_cons_self ..) rfl
        · rw [List.length_append, List.length_cons] at hl
          omega
    obtain ⟨j, hj⟩ := read_cols hn acc n (linesOf ts) cs [] (i + 1) ht.cols (by simpa using ht.nd) (by simpa using ht.few)
    have e2 : acc ++ (n, cs) :: ts = (acc ++ [(n, cs)]) ++ ts := by rw [List.append_assoc] <;> rfl
    have e3 : linesOf ((n, cs) :: ts) = (("table " : Str) ++ n) :: (cs.map lnC ++ linesOf ts) := rfl
    rw [e2] at hd hl ⊢
    rw [e3, readT, e1]
    refine hj.trans ?_
    rw [List.nil_append]
    exact read_tabs hn ts _ j (fun t ht => h t (List.mem_cons_of_mem _ ht)) hd hl
/-- THE READ-BACK: the lines of good tables give the tables -/
theorem read_lines {ts : List Tab} (h : TabsOk ts) : readT (named (linesOf ts)) (linesOf ts) [] 0 = .ok ts := by
  have hn : ∀ t ∈ ts.map Prod.fst, isW t = true := fun t ht => by
    obtain ⟨u, hu, rfl⟩ := List.mem_map.mp ht
    exact (h.tab u hu).w
  rw [named_lines hn h.tab]
  exact read_tabs hn ts [] 0 h.tab (by simpa using h.nd) (by simpa using h.few)
end Ow

/-! Ow.S3: data on the heap, tables on the heap -/
namespace Ow
open PySem PySem.Spec L2
/-- the heap without p -/
def less (p : Addr) (H : Hp) : Hp := fun a => if a = p then none else H a
theorem less_ne {p a : Addr} {H : Hp} (h : a ≠ p) : less p H a = H a := if_neg h
theorem less_some {p a : Addr} {H : Hp} {o : HO} (h : less p H a = some o) : a ≠ p ∧ H a = some o := by
  unfold less at h
  split at h
  · cases h
  · exact ⟨‹_›, h⟩
theorem less_same (p : Addr) (H : Hp) : Same (less p H) H := fun b o h => (less_some h).2
theorem less_keep {p : Addr} {H H' : Hp} (k : Keep p H H') : Same (less p H) (less p H') := fun b o h => by
  obtain ⟨h1, h2⟩ := less_some h
  rw [less_ne h1]
  exact k b o h1 h2
theorem less_mono {p : Addr} {H H' : Hp} (k : Same H H') : Same (less p H) (less p H') := less_keep (Keep.of k)
theorem same_upd {H : Hp} {a : Addr} {o : HO} (h : H a = none) : Same H (upd H a o) := fun b u e => by rw [upd_ne (ne_of_none e h)]; exact e
theorem Same.sqT {K : PySem.W.Frag} {H H' : Hp} {a : Addr} {xs : List V} (e : Same H H') (h : SqT K H a xs) : SqT K H' a xs := by
  rcases h with (h | ⟨o, h⟩) | h
  · exact .inl (.inl (e _ _ h))
  · exact .inl (.inr ⟨o, e _ _ h⟩)
  · exact .inr h
theorem Same.rd {H H' : Hp} {a : Addr} {u : HO} (e : Same H H') (h : Rd H a u) : Rd H' a u := h.elim (fun h => .inl (e _ _ h)) fun ⟨o, h⟩ => .inr ⟨o, e _ _ h⟩
/-! ### data -/
mutual
theorem Dp.same {K : PySem.W.Frag} {H H' : Hp} (e : Same H H') : ∀ (d : PyData) (v : V), Dp K H v d → Dp K H' v d
  | .none, _, h => by cases h; exact .non
  | .bool b, _, h => by cases h; exact .bl b
  | .int i, _, h => by cases h; exact .int i
  | .str x, _, h => by cases h; exact .str x
  | .list ds, _, h => by
    cases h with
    | lst hs ha => exact .lst (Same.seq e hs) (DpAll.same e ds _ ha)
  | .tuple ds, _, h => by
    cases h with
    | tup hs ha => exact .tup (Same.sqT e hs) (DpAll.same e ds _ ha)
  | .dict _, _, h => by cases h
theorem DpAll.same {K : PySem.W.Frag} {H H' : Hp} (e : Same H H') : ∀ (ds : List PyData) (vs : List V), DpAll K H vs ds → DpAll K H' vs ds
  | [], _, h => by cases h; exact .nil
  | d :: ds, _, h => by
    cases h with
    | cons h1 h2 => exact .cons (Dp.same e d _ h1) (DpAll.same e ds _ h2)
end
section
variable {K : PySem.W.Frag} {H : Hp}
theorem DpAll.len : ∀ {vs : List V} {ds : List PyData}, DpAll K H vs ds → vs.length = ds.length
  | [], _, h => by cases h; rfl
  | v :: vs, _, h => by
    cases h with
    | cons h1 h2 => rw [List.length_cons, List.length_cons, DpAll.len h2]
theorem DpAll.get : ∀ {vs : List V} {ds : List PyData} {i : Nat} {v : V}, DpAll K H vs ds → vs[i]? = some v → ∃ d, ds[i]? = some d ∧ Dp K H v d
  | [], _, i, v, h, e => by simp at e
  | v :: vs, _, i, u, h, e => by
    cases h with
    | cons h1 h2 =>
      cases i with
      | zero => exact ⟨_, rfl, by simpa using (show u = v by simpa using e.symm) ▸ h1⟩
      | succ i =>
        obtain ⟨d, h3, h4⟩ := DpAll.get (i := i) (v := u) h2 (by simpa using e)
        exact ⟨d, by simpa using h3, h4⟩
theorem DpAll.app : ∀ {vs us : List V} {ds es : List PyData}, DpAll K H vs ds → DpAll K H us es → DpAll K H (vs ++ us) (ds ++ es)
  | [], _, _, _, h, h' => by cases h; exact h'
  | v :: vs, _, _, _, h, h' => by
    cases h with
    | cons h1 h2 => exact .cons h1 (DpAll.app h2 h')
theorem DpAll.strs : ∀ (zs : List Str), DpAll K H (zs.map V.str) (zs.map PyData.str)
  | [] => .nil
  | z :: zs => .cons (.str z) (DpAll.strs zs)
theorem Dp.lst_inv {v : V} {ds : List PyData} (h : Dp K H v (.list ds)) : ∃ a xs, v = .ref a ∧ SqL K H a xs ∧ DpAll K H xs ds := by
  cases h with
  | lst hs ha => exact ⟨_, _, rfl, hs, ha⟩
theorem Dp.tup_inv {v : V} {ds : List PyData} (h : Dp K H v (.tuple ds)) : ∃ a xs, v = .ref a ∧ SqT K H a xs ∧ DpAll K H xs ds := by
  cases h with
  | tup hs ha => exact ⟨_, _, rfl, hs, ha⟩
end
/-! ### tables as data -/
def oD : Option Str → PyData
  | none => .none
  | some z => .str z
def oV : Option Str → V
  | none => .non
  | some z => .str z
theorem dp_oV {K : PySem.W.Frag} {H : Hp} : ∀ o : Option Str, Dp K H (oV o) (oD o)
  | none => .non
  | some z => .str z
theorem dp_oD {K : PySem.W.Frag} {H : Hp} {v : V} : ∀ {o : Option Str}, Dp K H v (oD o) → v = oV o
  | none, h => by cases h; rfl
  | some z, h => by cases h; rfl
def dCol (c : Col) : PyData := .tuple [.str c.name, .str c.kind, oD c.tgt, oD c.rule]
def dTab (t : Tab) : PyData := .tuple [.str t.1, .list (t.2.map dCol)]
def dTabs (ts : List Tab) : PyData := .list (ts.map dTab)
section
variable {K : PySem.W.Frag} {H : Hp}
theorem dCol_inv {v : V} {c : Col} (h : Dp K H v (dCol c)) : ∃ a, v = .ref a ∧ SqT K H a [.str c.name, .str c.kind, oV c.tgt, oV c.rule] := by
  obtain ⟨a, xs, e, hs, ha⟩ := Dp.tup_inv h
  refine ⟨a, e, ?_⟩
  cases ha with
  | cons h1 h2 => cases h2 with
    | cons h2 h3 => cases h3 with
      | cons h3 h4 => cases h4 with
        | cons h4 h5 =>
          cases h5
          cases h1
          cases h2
          rw [dp_oD h3, dp_oD h4] at hs
          exact hs
theorem dTab_inv {v : V} {t : Tab} (h : Dp K H v (dTab t)) : ∃ a l, v = .ref a ∧ SqT K H a [.str t.1, .ref l] ∧ Dp K H (.ref l) (.list (t.2.map dCol)) := by
  obtain ⟨a, xs, e, hs, ha⟩ := Dp.tup_inv h
  cases ha with
  | cons h1 h2 => cases h2 with
    | cons h2 h3 =>
      cases h3
      cases h1
      obtain ⟨l, ys, rfl, _⟩ := Dp.lst_inv h2
      exact ⟨a, l, e, hs, h2⟩
/-- the i-th of a list of data -/
theorem dp_at {α : Type} {f : α → PyData} {xs : List V} {l : List α} {i : Nat} {v : V} (h : DpAll K H xs (l.map f)) (e : xs[i]? = some v) : ∃ x, l[i]? = some x ∧ Dp K H v (f x) := by
  obtain ⟨d, e1, e2⟩ := DpAll.get h e
  rw [List.getElem?_map] at e1
  obtain ⟨x, e3, rfl⟩ := Option.map_eq_some_iff.mp e1
  exact ⟨x, e3, e2⟩
end
/-! ### tables as dicts -/
def KVs : Type := List (Key × V)
def tol (c : Col) : HO := .tup [.str c.kind, oV c.tgt, oV c.rule]
/-- a table's dict: its columns -/
inductive Cols (H : Hp) : List (Key × V) → List Col → Prop
  | nil : Cols H [] []
  | cons {a : Addr} {c : Col} {r : List (Key × V)} {cs : List Col} : H a = some (tol c) → Cols H r cs → Cols H ((Sum.inr c.name, .ref a) :: r) (c :: cs)
/-- a schema's dict, each table's dict locked -/
inductive Tabs (H : Hp) : List (Key × V) → List Tab → Prop
  | nil : Tabs H [] []
  | cons {a : Addr} {o : Obj} {n : Str} {kvs r : List (Key × V)} {cs : List Col} {ts : List Tab} : H a = some (.frz o (.dK kvs)) → Cols H kvs cs → Tabs H r ts → Tabs H ((Sum.inr n, .ref a) :: r) ((n, cs) :: ts)
/-- .. not locked yet -/
inductive Tabs0 (H : Hp) : List (Key × V) → List Tab → Prop
  | nil : Tabs0 H [] []
  | cons {a : Addr} {n : Str} {kvs r : List (Key × V)} {cs : List Col} {ts : List Tab} : H a = some (.dK kvs) → Cols H kvs cs → (∀ q ∈ r, q.2 ≠ .ref a) → Tabs0 H r ts → Tabs0 H ((Sum.inr n, .ref a) :: r) ((n, cs) :: ts)
section
variable {H H' : Hp}
theorem Cols.same (e : Same H H') : ∀ {kvs : List (Key × V)} {cs : List Col}, Cols H kvs cs → Cols H' kvs cs
  | _, _, .nil => .nil
  | _, _, .cons h1 h2 => .cons (e _ _ h1) (h2.same e)
theorem Tabs.same (e : Same H H') : ∀ {kvs : List (Key × V)} {ts : List Tab}, Tabs H kvs ts → Tabs H' kvs ts
  | _, _, .nil => .nil
  | _, _, .cons h1 h2 h3 => .cons (e _ _ h1) (h2.same e) (h3.same e)
/-- a change of a dict leaves the tuples -/
theorem Cols.upd {p : Addr} {o u : HO} (hp : H p = some u) (hu : ∀ xs, u ≠ .tup xs) : ∀ {kvs : List (Key × V)} {cs : List Col}, Cols H kvs cs → Cols (upd H p o) kvs cs
  | _, _, .nil => .nil
  | _, _, .cons h1 h2 => .cons (by rw [upd_ne (ne_of h1 hp fun z => hu _ z.symm)]; exact h1) (h2.upd hp hu)
theorem Cols.keys : ∀ {kvs : List (Key × V)} {cs : List Col}, Cols H kvs cs → kvs.map (fun kv => kV kv.1) = cs.map fun c => V.str c.name
  | _, _, .nil => rfl
  | _, _, .cons h1 h2 => by rw [List.map_cons, List.map_cons, h2.keys] <;> rfl
theorem Tabs.keys : ∀ {kvs : List (Key × V)} {ts : List Tab}, Tabs H kvs ts → kvs.map (fun kv => kV kv.1) = ts.map fun t => V.str t.1
  | _, _, .nil => rfl
  | _, _, .cons h1 h2 h3 => by rw [List.map_cons, List.map_cons, h3.keys] <;> rfl
theorem Tabs0.keys : ∀ {kvs : List (Key × V)} {ts : List Tab}, Tabs0 H kvs ts → kvs.map (fun kv => kV kv.1) = ts.map fun t => V.str t.1
  | _, _, .nil => rfl
  | _, _, .cons h1 h2 _ h3 => by rw [List.map_cons, List.map_cons, h3.keys] <;> rfl
theorem Cols.len {kvs : List (Key × V)} {cs : List Col} (h : Cols H kvs cs) : kvs.length = cs.length := by
  have e := congrArg List.length h.keys
  rwa [List.length_map, List.length_map] at e
theorem Tabs.len {kvs : List (Key × V)} {ts : List Tab} (h : Tabs H kvs ts) : kvs.length = ts.length := by
  have e := congrArg List.length h.keys
  rwa [List.length_map, List.length_map] at e
theorem Tabs0.len {kvs : List (Key × V)} {ts : List Tab} (h : Tabs0 H kvs ts) : kvs.length = ts.length := by
  have e := congrArg List.length h.keys
  rwa [List.length_map, List.length_map] at e
end
theorem valV_cons {k k' : Key} {v : V} {r : List (Key × V)} : valV ((k, v) :: r) k' = if k = k' then some v else valV r k' := by
  unfold valV
  rw [List.find?_cons]
  by_cases h : k = k'
  · simp [h]
  · simp [h]
theorem inr_inj {a b : Str} : ((Sum.inr a : Key) = Sum.inr b) ↔ a = b := ⟨fun h => by cases h; rfl, fun h => by rw [h]⟩
section
variable {H H' : Hp}
def colAt (cs : List Col) (x : Str) : Option Col := cs.find? fun c => decide (c.name = x)
def tabAt (ts : List Tab) (x : Str) : Option (List Col) := (ts.find? fun t => decide (t.1 = x)).map Prod.snd
theorem colAt_cons {c : Col} {cs : List Col} {x : Str} : colAt (c :: cs) x = if c.name = x then some c else colAt cs x := by
  unfold colAt
  rw [List.find?_cons]
  by_cases h : c.name = x <;> simp [h]
theorem tabAt_cons {n : Str} {cs : List Col} {ts : List Tab} {x : Str} : tabAt ((n, cs) :: ts) x = if n = x then some cs else tabAt ts x := by
  unfold tabAt
  rw [List.find?_cons]
  by_cases h : n = x <;> simp [h]
theorem colAt_none {cs : List Col} {x : Str} : colAt cs x = none ↔ x ∉ cs.map Col.name := by
  unfold colAt
  rw [List.find?_eq_none, List.mem_map]
  constructor
  · rintro h ⟨c, hc, rfl⟩
    exact h c hc (by simp)
  · intro h c hc z
    exact h ⟨c, hc, by simpa using z⟩
theorem tabAt_none {ts : List Tab} {x : Str} : tabAt ts x = none ↔ x ∉ ts.map Prod.fst := by
  unfold tabAt
  rw [Option.map_eq_none_iff, List.find?_eq_none, List.mem_map]
  constructor
  · rintro h ⟨c, hc, rfl⟩
    exact h c hc (by simp)
  · intro h c hc z
    exact h ⟨c, hc, by simpa using z⟩
theorem Cols.val {x : Str} : ∀ {kvs : List (Key × V)} {cs : List Col}, Cols H kvs cs → (colAt cs x = none ∧ valV kvs (Sum.inr x) = none) ∨ ∃ c a, colAt cs x = some c ∧ valV kvs (Sum.inr x) = some (.ref a) ∧ H a = some (tol c)
  | _, _, .nil => .inl ⟨rfl, rfl⟩
  | _, _, .cons (a := a) (c := c) h1 h2 => by
    rw [colAt_cons, valV_cons]
    by_cases h : c.name = x
    · rw [if_pos h, if_pos (inr_inj.mpr h)]
      exact .inr ⟨c, a, rfl, rfl, h1⟩
    · rw [if_neg h, if_neg (fun z => h (inr_inj.mp z))]
      exact h2.val
theorem Tabs.val {x : Str} : ∀ {kvs : List (Key × V)} {ts : List Tab}, Tabs H kvs ts → (tabAt ts x = none ∧ valV kvs (Sum.inr x) = none) ∨
    ∃ cs a o kvs', tabAt ts x = some cs ∧ valV kvs (Sum.inr x) = some (.ref a) ∧ H a = some (.frz o (.dK kvs')) ∧ Cols H kvs' cs
  | _, _, .nil => .inl ⟨rfl, rfl⟩
  | _, _, .cons (n := n) h1 h2 h3 => by
    rw [tabAt_cons, valV_cons]
    by_cases h : n = x
    · rw [if_pos h, if_pos (inr_inj.mpr h)]
      exact .inr ⟨_, _, _, _, rfl, rfl, h1, h2⟩
    · rw [if_neg h, if_neg (fun z => h (inr_inj.mp z))]
      exact h3.val
theorem Tabs0.val {x : Str} : ∀ {kvs : List (Key × V)} {ts : List Tab}, Tabs0 H kvs ts → (tabAt ts x = none ∧ valV kvs (Sum.inr x) = none) ∨
    ∃ cs a kvs', tabAt ts x = some cs ∧ valV kvs (Sum.inr x) = some (.ref a) ∧ H a = some (.dK kvs') ∧ Cols H kvs' cs
  | _, _, .nil => .inl ⟨rfl, rfl⟩
  | _, _, .cons (n := n) h1 h2 _ h3 => by
    rw [tabAt_cons, valV_cons]
    by_cases h : n = x
    · rw [if_pos h, if_pos (inr_inj.mpr h)]
      exact .inr ⟨_, _, _, rfl, rfl, h1, h2⟩
    · rw [if_neg h, if_neg (fun z => h (inr_inj.mp z))]
      exact h3.val
end
end Ow

/-! Ow.S4: the schemas' module: its facts, its promises -/
namespace Ow
open PySem PySem.Spec PyProof.Rows L2
/-! ### constants of a module -/
section
variable {X : Cx} {x : Str} {pos : Pos}
theorem pe_gs {z : Str} (h : ∃ t, X.mg x = some (.str z t)) (hg : Gl X x) (hd : (x == ("__debug__" : Str)) = false := by decide) : PE X (.Name x pos) (tC (.str z)) := by
  obtain ⟨t, h⟩ := h
  exact pe_glob hg h ⟨t, rfl⟩ hd
theorem pe_gi {i : Int} (h : ∃ t, X.mg x = some (.int i t)) (hg : Gl X x) (hd : (x == ("__debug__" : Str)) = false := by decide) : PE X (.Name x pos) (tC (.int i)) := by
  obtain ⟨t, h⟩ := h
  exact pe_glob hg h ⟨t, rfl⟩ hd
def tGT (K : PySem.W.Frag) (xs : List V) : TE := fun σ H Q => ∀ a, (∀ H, SqT K H a xs) → Q (.ref a) H
theorem pe_gt {xs : List V} {K : PySem.W.Frag} (h : ∃ a, X.mg x = some (.ref a) ∧ ∀ H, SqT K H a xs) (hg : Gl X x) (hd : (x == ("__debug__" : Str)) = false := by decide) : PE X (.Name x pos) (tGT K xs) := by
  obtain ⟨a, h, ha⟩ := h
  have p : PE X (.Name x pos) (tC (.ref a)) := pe_glob hg h rfl hd
  exact ⟨fun pins s σ H Q I hw => p.run pins s σ H Q I (hw a ha)⟩
end
structure ScC (K : PySem.W.Frag) (mg : Str → Option Value) : Prop where
  LETTERS : ∃ t, mg "LETTERS" = some (.str LET t)
  MOST_TABLES : ∃ t, mg "MOST_TABLES" = some (.int 5 t)
  MOST_COLUMNS : ∃ t, mg "MOST_COLUMNS" = some (.int 6 t)
  VALUE : ∃ t, mg "VALUE" = some (.str ("value" : Str) t)
  FLAG : ∃ t, mg "FLAG" = some (.str ("flag" : Str) t)
  LINK : ∃ t, mg "LINK" = some (.str ("link" : Str) t)
  BARRED : ∃ a, mg "BARRED" = some (.ref a) ∧ ∀ H, SqT K H a (BAR.map V.str)
  RULES : ∃ a, mg "RULES" = some (.ref a) ∧ ∀ H, SqT K H a (RUL.map V.str)
  all : mg "all" = none
  enumerate : mg "enumerate" = none
  str : mg "str" = none
  isinstance : mg "isinstance" = none
  tuple : mg "tuple" = none
  len : mg "len" = none
  any : mg "any" = none
  list : mg "list" = none
/-! ### methods by name -/
abbrev MtP (K : PySem.W.Frag) (m qual : Str) (st : Stmt) (f : Addr) (fd : FuncData) : Prop := FunD K m qual (defArgs st) (defBody st) (defScope st) [] [] f fd
def MtD (K : PySem.W.Frag) (cls m qual : Str) (st : Stmt) : Prop := ∃ f fd, MtP K m qual st f fd ∧ Meth K (He.ga K cls) m f
def MtAt (P : Program) (w : World) (K : PySem.W.Frag) (mg : Str → Option Value) (base : Heap) (cls m : Str) (ps : List Str) (k : Nat) (sp : Sp) : Prop :=
  ∃ f fd, Meth K (He.ga K cls) m f ∧ Binds K fd ps [] ∧ FnOk P w K mg base CX0 k f fd ps sp
section
variable {P : Program} {w : World} {K : PySem.W.Frag} {mg : Str → Option Value} {base : Heap}
theorem mt_at {cls m qual : Str} {st : Stmt} {N ps : List Str} {k : Nat} {sp : Sp} (T : MtD K cls m qual st) (S : FnScope N ps (defScope st))
    (hb : ∀ (kV doc pm : Value) (an : Option Addr) (cdv ct : Value) (us : List Value), us.length = ps.length → bindArgs (PySem.W.fnOf m qual (defArgs st) (defBody st) (defScope st) .none kV doc pm an cdv ct) ⟨us, []⟩ = pure (ps.zip us))
    (len : ∀ vs H Q E, sp vs H Q E → vs.length = ps.length)
    (hbody : ∀ (f : Addr) (cdv : Value) (A : Around) (outer : List Env) (s : Shared) (H : Hp) (vs : List V) (Q : VK) (E : XK), Room k (A.deeper (envOfC qual (defScope st) s.heap.objs.size f cdv)) → sp vs H Q E →
      ∃ t, PSs (cxOf CX0 P w K mg base N qual (defScope st) f cdv A outer s H E).nox (defBody st) t ∧ t { nx := fun _ H' => Q .non H', rt := Q } (start N vs) H) : MtAt P w K mg base cls m ps (k + 1) sp := by
  obtain ⟨f, fd, F, hm⟩ := T
  refine ⟨f, fd, hm, F.bindsN hb, F.ok S len fun cdv A outer s H vs Q E hr h => ?_⟩
  obtain ⟨t, h1, h2⟩ := hbody f cdv A outer s H vs Q E hr h
  exact ⟨t, h1.nox, h2⟩
end
section
variable {X : Cx} {cls m x : Str} {p apos pos : Pos} {o e : Expr} {es : List Expr} {t : TA} {ta : TE} {ps : List Str} {k : Nat} {sp : Sp}
theorem pe_mt {pl : Sem Bool} (F : MtAt X.prog X.w X.K X.mg X.base cls m ps k sp) (c : Cls X.K (He.ga X.K cls)) (hr : Room k X.A) (ho : PE X o ta) (ha : PA X (e :: es) t)
    (hst : starEach (e :: es) X.env = (false, eval e X.env) :: starEach es X.env := by rfl) (hpl : (backTo pos (starEach es X.env)).any (·.1) = false := by rfl)
    (ht : eval (.Call (.Attribute o m apos) (e :: es) [] pos) X.env = (do
      let ov ← eval o X.env
      standAt apos.atName
      let (f, first) ← holding [ov] (getMethod ov m pl)
      callWith pos f first (backTo pos (starEach (e :: es) X.env)) (backToKw pos (keywordEach [] X.env))) := by rfl) :
    PE X (.Call (.Attribute o m apos) (e :: es) [] pos) (tMeth (He.ga X.K cls) m sp [] E0 ta t) := by
  obtain ⟨f, fd, h1, h2, h3⟩ := F
  exact pe_meth ho c h1 h3 hr h2 .nil pass0 ha hst hpl ht
theorem pe_mk {kf : Str} (F : MtAt X.prog X.w X.K X.mg X.base cls "__init__" ps k sp) (c : ∃ f, Mk X.K (He.ga X.K cls) f) (hr : Room (k + 1) X.A) (hg : Gl X cls) (hm : X.mg cls = some (.ref (He.ga X.K cls))) (ha : PA X (e :: es) t)
    (hdb : (cls == ("__debug__" : Str)) = false := by decide) (he : starEach (e :: es) X.env = (false, eval e X.env) :: starEach es X.env := by rfl) (hpl : (backTo pos (starEach es X.env)).any (·.1) = false := by rfl) :
    PE X (.Call (.Name cls p) (e :: es) [] pos) (tMake (He.ga X.K cls) sp [] E0 t) := by
  obtain ⟨f, fd, h1, h2, h3⟩ := F
  obtain ⟨f', M⟩ := c
  have e1 : f' = f := by
    have z := M.init.symm.trans h1.at_
    cases z
    rfl
  subst e1
  exact pe_make M h3 hr hg hm h2 .nil pass0 ha hdb he hpl
end
/-! ### promises -/
/-- a Schema, with its text and its tables -/
def SchAt (K : PySem.W.Frag) (H : Hp) (x : Addr) (z : Str) (ts : List Tab) : Prop := ∃ (dx d tp : Addr) (o : Obj) (kvs : List (Key × V)),
  H x = some (.ins (He.ga K "Schema") dx [(("text" : Str), .str z), (("found" : Str), .ref d), (("tables" : Str), .ref tp)]) ∧ H d = some (.frz o (.dK kvs)) ∧ Tabs H kvs ts ∧ H tp = some (.tup (ts.map fun t => .str t.1))
theorem SchAt.same {K : PySem.W.Frag} {H H' : Hp} {x : Addr} {z : Str} {ts : List Tab} (h : SchAt K H x z ts) (e : Same H H') : SchAt K H' x z ts := by
  obtain ⟨dx, d, tp, o, kvs, h1, h2, h3, h4⟩ := h
  exact ⟨dx, d, tp, o, kvs, e _ _ h1, e _ _ h2, h3.same e, e _ _ h4⟩
theorem Cols.less {p : Addr} {H : Hp} {u : HO} (hp : H p = some u) (hu : ∀ xs, u ≠ .tup xs) : ∀ {kvs : List (Key × V)} {cs : List Col}, Cols H kvs cs → Cols (less p H) kvs cs
  | _, _, .nil => .nil
  | _, _, .cons h1 h2 => .cons (by rw [less_ne (ne_of h1 hp fun z => hu _ z.symm)]; exact h1) (h2.less hp hu)
theorem Tabs.less {p : Addr} {H : Hp} {ys : List V} (hp : H p = some (.lst ys)) : ∀ {kvs : List (Key × V)} {ts : List Tab}, Tabs H kvs ts → Tabs (less p H) kvs ts
  | _, _, .nil => .nil
  | _, _, .cons h1 h2 h3 => .cons (by rw [less_ne (ne_of h1 hp fun z => nomatch z)]; exact h1) (h2.less hp fun _ z => nomatch z) (h3.less hp)
/-- a pool is no part of a Schema -/
theorem SchAt.less {K : PySem.W.Frag} {p : Addr} {H : Hp} {ys : List V} (hp : H p = some (.lst ys)) {x : Addr} {z : Str} {ts : List Tab} (h : SchAt K H x z ts) : SchAt K (less p H) x z ts := by
  obtain ⟨dx, d, tp, o, kvs, h1, h2, h3, h4⟩ := h
  refine ⟨dx, d, tp, o, kvs, ?_, ?_, h3.less hp, ?_⟩
  · rw [less_ne (ne_of h1 hp fun z => nomatch z)]; exact h1
  · rw [less_ne (ne_of h2 hp fun z => nomatch z)]; exact h2
  · rw [less_ne (ne_of h4 hp fun z => nomatch z)]; exact h4
def Short (ls : List Str) : Prop := ls.length ≤ 1000 ∧ ∀ z ∈ ls, z.length ≤ 100000
def spIsW : Sp := fun vs H Q _ => ∃ z : Str, vs = [.str z] ∧ z.length ≤ 100000 ∧ ∀ H', Same H H' → Q (.bl (isW z)) H'
def spNamed (K : PySem.W.Frag) : Sp := fun vs H Q _ => ∃ (l : Addr) (ls : List Str), vs = [.ref l] ∧ SqL K H l (ls.map V.str) ∧ Short ls ∧
  ∀ H' p, Same H H' → H p = none → H' p = some (.lst ((named ls).map V.str)) → Q (.ref p) H'
def spColOf (K : PySem.W.Frag) : Sp := fun vs H Q _ => ∃ (l m : Addr) (ws ns : List Str), vs = [.ref l, .ref m] ∧ SqL K H l (ws.map V.str) ∧ SqL K H m (ns.map V.str) ∧ (∀ z ∈ ws, z.length ≤ 100000) ∧
  (colOf ws ns = none → ∀ H', Same H H' → Q .non H') ∧ ∀ c, colOf ws ns = some c → ∀ H' p t, Same H H' → H' p = some (.tup [.str c.name, .ref t]) → H' t = some (tol c) → Q (.ref p) H'
def spRead (K : PySem.W.Frag) : Sp := fun vs H Q _ => ∃ (l : Addr) (ls : List Str) (ts : List Tab), vs = [.ref l] ∧ SqL K H l (ls.map V.str) ∧ Short ls ∧ readT (named ls) ls [] 0 = .ok ts ∧
  ∀ H' d o kvs, Same H H' → H' d = some (.frz o (.dK kvs)) → Tabs H' kvs ts → Q (.ref d) H'
def linesIn (z : Str) : List Str := Txt.split z ("\n" : Str)
def spInit (K : PySem.W.Frag) : Sp := fun vs H Q _ => ∃ (x dx : Addr) (z : Str) (ts : List Tab), vs = [.ref x, .str z] ∧ H x = some (.ins (He.ga K "Schema") dx []) ∧ z.length ≤ 100000 ∧ Short (linesIn z) ∧ readT (named (linesIn z)) (linesIn z) [] 0 = .ok ts ∧
  ∀ H', (∀ b o, b ≠ x → H b = some o → H' b = some o) → SchAt K H' x z ts → Q .non H'
def spColumns (K : PySem.W.Frag) : Sp := fun vs H Q _ => ∃ (x : Addr) (z t : Str) (ts : List Tab) (cs : List Col), vs = [.ref x, .str t] ∧ SchAt K H x z ts ∧ tabAt ts t = some cs ∧
  ∀ H' q, Same H H' → H q = none → H' q = some (.tup (cs.map fun c => .str c.name)) → Q (.ref q) H'
def spTold (K : PySem.W.Frag) : Sp := fun vs H Q _ => ∃ (x : Addr) (z t y : Str) (ts : List Tab) (cs : List Col) (c : Col), vs = [.ref x, .str t, .str y] ∧ SchAt K H x z ts ∧ tabAt ts t = some cs ∧ colAt cs y = some c ∧
  ∀ H' a, Same H H' → H' a = some (tol c) → Q (.ref a) H'
def spPart (K : PySem.W.Frag) (f : Col → V) : Sp := fun vs H Q _ => ∃ (x : Addr) (z t y : Str) (ts : List Tab) (cs : List Col) (c : Col), vs = [.ref x, .str t, .str y] ∧ SchAt K H x z ts ∧ tabAt ts t = some cs ∧ colAt cs y = some c ∧
  ∀ H', Same H H' → Q (f c) H'
/-- the links that lead to a table -/
def linksTo (ts : List Tab) (t : Str) : List (Str × Str) := ts.flatMap fun u => (u.2.filter fun c => decide (c.tgt = some t)).map fun c => (u.1, c.name)
def dPr (p : Str × Str) : PyData := .tuple [.str p.1, .str p.2]
def spLinks (K : PySem.W.Frag) : Sp := fun vs H Q _ => ∃ (x : Addr) (z t : Str) (ts : List Tab) (cs : List Col), vs = [.ref x, .str t] ∧ SchAt K H x z ts ∧ tabAt ts t = some cs ∧ (ts.map Prod.fst).Nodup ∧ ts.length ≤ 5 ∧ (∀ u ∈ ts, u.2.length ≤ 6) ∧
  ∀ H' l xs, Same H H' → H l = none → H' l = some (.lst xs) → DpAll K H' xs ((linksTo ts t).map dPr) → (∀ a, V.ref a ∈ xs → H a = none) → Q (.ref l) H'
/-! ### steps -/
theorem inV_str {z : Str} : ∀ {l : List Str}, inV (.str z) (l.map V.str) = decide (z ∈ l)
  | [] => by simp [inV]
  | y :: l => by
    have ih := inV_str (z := z) (l := l)
    unfold inV at ih ⊢
    rw [List.map_cons, List.any_cons, ih]
    have e : eqV (V.str y) (V.str z) = (y == z) := rfl
    rw [e]
    by_cases h : z = y
    · subst h; simp
    · have h' : ¬ y = z := fun q => h q.symm
      simp [h, h']
theorem flat_strs : ∀ l : List Str, (l.map V.str).all flatV = true
  | [] => rfl
  | _ :: l => by rw [List.map_cons, List.all_cons, flat_strs l] <;> rfl
end Ow

/-! Ow.S5: words of a line, their number and lengths -/
namespace Ow
open PySem PySem.Spec L2 TL
theorem spl_ne (S : List Nat) : ∀ (x : List Nat) (k : Nat) (acc : List Nat), spl S k acc x ≠ []
  | [], k, acc => by rw [spl_nil]; simp
  | c :: x, 0, acc => by
    show (if pre S (c :: x) = true then acc :: spl S (S.length - 1) [] x else spl S 0 (acc ++ [c]) x) ≠ []
    split
    · simp
    · exact spl_ne S x _ _
  | c :: x, k + 1, acc => spl_ne S x k acc
theorem split_ne {x y : Str} (hy : tl y ≠ []) (hk : y.cps.all (· < 256) = true) : Txt.split x y ≠ [] := fun z => by
  have e := split_spl x y hy (kind_ok hk)
  rw [z] at e
  exact spl_ne _ _ _ _ e.symm
theorem joinL_len (S : List Nat) : ∀ {ps : List (List Nat)} {p : List Nat}, p ∈ ps → p.length ≤ (joinL S ps).length
  | [], _, h => nomatch h
  | [q], p, h => by
    rw [List.mem_singleton.mp h]
    exact Nat.le_refl _
  | q :: r :: t, p, h => by
    show _ ≤ (q ++ (S ++ joinL S (r :: t))).length
    rw [List.length_append, List.length_append]
    rcases List.mem_cons.mp h with rfl | h
    · omega
    · have := joinL_len S h
      omega
theorem split_len {x y z : Str} (h : z ∈ Txt.split x y) : z.length ≤ x.length := by
  have e := StrLaws.join_split x y
  rw [len_tl z, len_tl x, ← e, tl_join]
  exact joinL_len _ (List.mem_map_of_mem h)
theorem ws_ne (line : Str) : wsOf line ≠ [] := split_ne (by decide +kernel) (by decide +kernel)
theorem ws_len {line z : Str} (h : z ∈ wsOf line) : z.length ≤ line.length := split_len h
theorem wd_some {ws : List Str} {i : Nat} (h : i < ws.length) : ws[i]? = some (wd ws i) := by
  unfold wd
  rw [List.getD_eq_getElem?_getD, List.getElem?_eq_getElem h] <;> rfl
theorem wd_mem {ws : List Str} {i : Nat} (h : i < ws.length) : wd ws i ∈ ws := List.mem_of_getElem? (wd_some h)
theorem wd_at {ws : List Str} {i : Nat} (h : i < ws.length) : atI (ws.map V.str) (i : Int) = some (.str (wd ws i)) := atI_nat (by rw [List.getElem?_map, wd_some h] <;> rfl)
end Ow

/-! Ow.S6: the dicts of a schema while it is read -/
namespace Ow
open PySem PySem.Spec L2
def Ads (kvs : List (Key × V)) (b : Addr) : Prop := ∃ e ∈ kvs, e.2 = V.ref b
theorem Ads.cons {k : Key} {a b : Addr} {r : List (Key × V)} : Ads ((k, .ref a) :: r) b ↔ b = a ∨ Ads r b := by
  constructor
  · rintro ⟨e, h1, h2⟩
    rcases List.mem_cons.mp h1 with rfl | h1
    · left
      injection h2 with h2
      exact h2.symm
    · exact .inr ⟨e, h1, h2⟩
  · rintro (rfl | ⟨e, h1, h2⟩)
    · exact ⟨_, List.mem_cons_self .., rfl⟩
    · exact ⟨e, List.mem_cons_of_mem _ h1, h2⟩
section
variable {H : Hp}
theorem Tabs0.dk {b : Addr} : ∀ {kvs : List (Key × V)} {ts : List Tab}, Tabs0 H kvs ts → Ads kvs b → ∃ k', H b = some (.dK k')
  | _, _, .nil, h => by
    obtain ⟨e, h, _⟩ := h
    cases h
  | _, _, .cons h1 h2 h3 h4, h => by
    rcases Ads.cons.mp h with rfl | h
    · exact ⟨_, h1⟩
    · exact h4.dk h
theorem Cols.agree {H' : Hp} (e : ∀ b xs, H b = some (.tup xs) → H' b = some (.tup xs)) : ∀ {kvs : List (Key × V)} {cs : List Col}, Cols H kvs cs → Cols H' kvs cs
  | _, _, .nil => .nil
  | _, _, .cons h1 h2 => .cons (e _ _ h1) (h2.agree e)
/-- what stands elsewhere may change -/
theorem Tabs0.agree {H' : Hp} (e : ∀ b xs, H b = some (.tup xs) → H' b = some (.tup xs)) : ∀ {kvs : List (Key × V)} {ts : List Tab}, Tabs0 H kvs ts → (∀ b, Ads kvs b → H' b = H b) → Tabs0 H' kvs ts
  | _, _, .nil, _ => .nil
  | _, _, .cons h1 h2 h3 h4, d => .cons (by rw [d _ (Ads.cons.mpr (.inl rfl))]; exact h1) (h2.agree e) h3 (h4.agree e fun b hb => d b (Ads.cons.mpr (.inr hb)))
theorem Tabs0.updO {p : Addr} {o u : HO} (hp : H p = some u) (hu : ∀ xs, u ≠ .tup xs) {kvs : List (Key × V)} {ts : List Tab} (h : Tabs0 H kvs ts) (n : ¬ Ads kvs p) : Tabs0 (upd H p o) kvs ts := by
  refine h.agree (fun b xs e => ?_) fun b hb => ?_
  · rw [upd_ne (ne_of e hp fun z => hu _ z.symm)]; exact e
  · rw [upd_ne (fun z : b = p => n (by rw [← z]; exact hb))]
theorem Tabs0.updN {p : Addr} {o : HO} (hp : H p = none) {kvs : List (Key × V)} {ts : List Tab} (h : Tabs0 H kvs ts) : Tabs0 (upd H p o) kvs ts := by
  refine h.agree (fun b xs e => ?_) fun b hb => ?_
  · rw [upd_ne (ne_of_none e hp)]; exact e
  · obtain ⟨k', e⟩ := h.dk hb
    rw [upd_ne (ne_of_none e hp)]
theorem Tabs0.same {H' : Hp} (e : Same H H') {kvs : List (Key × V)} {ts : List Tab} (h : Tabs0 H kvs ts) : Tabs0 H' kvs ts := by
  refine h.agree (fun b xs q => e _ _ q) fun b hb => ?_
  obtain ⟨k', q⟩ := h.dk hb
  rw [q]
  exact e _ _ q
theorem ads_app {kvs r : List (Key × V)} {b : Addr} : Ads (kvs ++ r) b ↔ Ads kvs b ∨ Ads r b := by
  constructor
  · rintro ⟨e, h1, h2⟩
    rcases List.mem_append.mp h1 with h1 | h1
    · exact .inl ⟨e, h1, h2⟩
    · exact .inr ⟨e, h1, h2⟩
  · rintro (⟨e, h1, h2⟩ | ⟨e, h1, h2⟩)
    · exact ⟨e, List.mem_append_left _ h1, h2⟩
    · exact ⟨e, List.mem_append_right _ h1, h2⟩
/-- one more table -/
theorem Tabs0.more {a : Addr} {n : Str} (ha : H a = some (.dK [])) : ∀ {kvs : List (Key × V)} {ts : List Tab}, Tabs0 H kvs ts → ¬ Ads kvs a → Tabs0 H (kvs ++ [(Sum.inr n, .ref a)]) (ts ++ [(n, [])])
  | _, _, .nil, _ => .cons ha .nil (fun _ h => nomatch h) .nil
  | _, _, .cons (a := b) h1 h2 h3 h4, d => by
    refine .cons h1 h2 (fun q hq => ?_) (h4.more ha fun z => d (Ads.cons.mpr (.inr z)))
    rcases List.mem_append.mp hq with hq | hq
    · exact h3 q hq
    · rw [List.mem_singleton.mp hq]
      intro z
      injection z with z
      exact d (Ads.cons.mpr (.inl z))
theorem putK_new {kvs : List (Key × V)} {k : Key} {v : V} (h : valV kvs k = none) : putK kvs k v = kvs ++ [(k, v)] := by
  unfold putK
  unfold valV at h
  rw [Option.map_eq_none_iff, List.find?_eq_none] at h
  have e : (kvs.any fun kv => decide (kv.1 = k)) = false := by
    rw [Bool.eq_false_iff]
    intro z
    obtain ⟨x, hx, hk⟩ := List.any_eq_true.mp z
    exact h x hx hk
  first
    | rw [if_neg (by rw [e]; simp)]
    | simp [e]
theorem cols_more {kvs : List (Key × V)} {cs : List Col} {c : Col} {t : Addr} (ht : H t = some (tol c)) (h : Cols H kvs cs) : Cols H (kvs ++ [(Sum.inr c.name, .ref t)]) (cs ++ [c]) := by
  induction h with
  | nil => exact .cons ht .nil
  | cons h1 h2 ih => exact .cons h1 ih
/-- the last table's dict, and one more column there -/
theorem Tabs0.last {n : Str} {cs : List Col} : ∀ {acc : List Tab} {kvs : List (Key × V)}, Tabs0 H kvs (acc ++ [(n, cs)]) → n ∉ acc.map Prod.fst → ∃ a k', valV kvs (Sum.inr n) = some (.ref a) ∧ H a = some (.dK k') ∧ Cols H k' cs ∧ Ads kvs a ∧
    ∀ (c : Col) (t : Addr), H t = some (tol c) → Tabs0 (upd H a (.dK (k' ++ [(Sum.inr c.name, .ref t)]))) kvs (acc ++ [(n, cs ++ [c])])
  | [], _, h, _ => by
    cases h with
    | cons h1 h2 h3 h4 =>
      cases h4
      refine ⟨_, _, by rw [valV_cons, if_pos rfl], h1, h2, Ads.cons.mpr (.inl rfl), fun c t ht => ?_⟩
      refine .cons upd_same ?_ (fun _ h => nomatch h) .nil
      have e := cols_more ht h2
      exact e.upd h1 fun _ z => nomatch z
  | (m, ds) :: acc, _, h, hn => by
    cases h with
    | cons h1 h2 h3 h4 =>
      rename_i b k0 r
      rw [List.map_cons, List.mem_cons, not_or] at hn
      obtain ⟨a, k', e1, e2, e3, e4, e5⟩ := Tabs0.last (acc := acc) h4 hn.2
      have nab : b ≠ a := fun z => by
        obtain ⟨e, he1, he2⟩ := e4
        exact h3 e he1 (by rw [he2, z])
      refine ⟨a, k', by rw [valV_cons, if_neg (fun z => hn.1 (inr_inj.mp z).symm)]; exact e1, e2, e3, Ads.cons.mpr (.inr e4), fun c t ht => ?_⟩
      refine .cons (kvs := k0) ?_ ?_ h3 (e5 c t ht)
      · rw [upd_ne nab]; exact h1
      · exact h2.upd e2 fun _ z => nomatch z
/-- all locked -/
theorem frz_tabs {q : Hp → Prop} : ∀ {kvs : List (Key × V)} {ts : List Tab} {H : Hp}, Tabs0 H kvs ts → (∀ H', (∀ b, ¬ Ads kvs b → H' b = H b) → Tabs H' kvs ts → q H') → FrzN kvs.length H q
  | _, _, H, .nil, k => k H (fun _ _ => rfl) .nil
  | _, _, H, .cons (a := a) (kvs := k0) (r := r) h1 h2 h3 h4, k => by
    refine ⟨a, .dK k0, h1, trivial, fun od => ?_⟩
    have na : ¬ Ads r a := fun ⟨e, he1, he2⟩ => h3 e he1 he2
    refine frz_tabs (h4.updO h1 (fun _ z => nomatch z) na) fun H' d t => ?_
    refine k H' (fun b hb => ?_) (.cons (o := od) (kvs := k0) ?_ ?_ t)
    · rw [d b fun z => hb (Ads.cons.mpr (.inr z)), upd_ne fun z => hb (Ads.cons.mpr (.inl z))]
    · rw [d a na, upd_same]
    · refine h2.agree fun b xs e => ?_
      rw [d b, upd_ne (ne_of e h1 fun z => nomatch z)]
      · exact e
      · intro z
        obtain ⟨k', e'⟩ := h4.dk z
        rw [e] at e'
        cases e'
/-- the whole schema locked -/
theorem frz_all {q : Hp → Prop} {kvs : List (Key × V)} {ts : List Tab} {d : Addr} (hd : H d = some (.dK kvs)) (h : Tabs0 H kvs ts) (nd : ¬ Ads kvs d)
    (k : ∀ H' o, (∀ b, b ≠ d → ¬ Ads kvs b → H' b = H b) → H' d = some (.frz o (.dK kvs)) → Tabs H' kvs ts → q H') : ∃ n, FrzN n H q := by
  refine ⟨kvs.length + 1, d, .dK kvs, hd, trivial, fun od => ?_⟩
  refine frz_tabs (h.updO hd (fun _ z => nomatch z) nd) fun H' e t => ?_
  refine k H' od (fun b hb hn => ?_) ?_ t
  · rw [e b hn, upd_ne hb]
  · rw [e d nd, upd_same]
end
/-! ### one line -/
theorem addCol_last {acc : List Tab} {n : Str} {cs : List Col} {c : Col} {ts : List Tab} (h : addCol (acc ++ [(n, cs)]) c = some ts) : c.name ∉ cs.map Col.name ∧ cs.length ≠ 6 ∧ ts = acc ++ [(n, cs ++ [c])] := by
  induction acc generalizing ts with
  | nil =>
    have h : (if c.name ∈ cs.map Col.name ∨ cs.length = 6 then none else some [(n, cs ++ [c])]) = some ts := h
    split at h
    · cases h
    · rename_i q
      cases h
      exact ⟨fun z => q (.inl z), fun z => q (.inr z), rfl⟩
  | cons t acc ih =>
    have e : addCol (t :: acc ++ [(n, cs)]) c = (addCol (acc ++ [(n, cs)]) c).map (t :: ·) := by
      cases acc <;> rfl
    rw [e] at h
    obtain ⟨us, h1, rfl⟩ := Option.map_eq_some_iff.mp h
    obtain ⟨h2, h3, rfl⟩ := ih h1
    exact ⟨h2, h3, rfl⟩
theorem addCol_some {ts us : List Tab} {c : Col} (h : addCol ts c = some us) : ∃ acc n cs, ts = acc ++ [(n, cs)] := by
  rcases List.eq_nil_or_concat ts with rfl | ⟨acc, ⟨n, cs⟩, rfl⟩
  · cases h
  · exact ⟨acc, n, cs, by simp⟩
/-- the last table's name -/
def lastV (ts : List Tab) : V := match ts.getLast? with
  | none => .non
  | some t => .str t.1
theorem lastV_app {acc : List Tab} {n : Str} {cs : List Col} : lastV (acc ++ [(n, cs)]) = .str n := by
  unfold lastV
  rw [List.getLast?_append] <;> simp
end Ow

/-! Ow.S7: the class Schema; rules with the written part said; two-fold comprehensions by walks -/
namespace Ow
open PySem PySem.Spec L2
structure ScS (K : PySem.W.Frag) (mg : Str → Option Value) : Prop where
  at_ : mg "Schema" = some (.ref (He.ga K "Schema"))
  cl : Cls K (He.ga K "Schema")
  mak : ∃ f, Mk K (He.ga K "Schema") f
  text : NoAttr K (He.ga K "Schema") "text"
  found : NoAttr K (He.ga K "Schema") "found"
  tables : NoAttr K (He.ga K "Schema") "tables"
section
variable {X : Cx} {K : PySem.W.Frag}
theorem ix_tupK (hK : X.K = K := by rfl) : IxR X (rIxT K) := by subst hK; exact ix_tup
theorem ix_listK (hK : X.K = K := by rfl) : IxR X (rIxL K) := by subst hK; exact ix_list
theorem pe_fldK {e : Expr} {ta : TE} {f : Str} {pos : Pos} (he : PE X e ta) (hb : attributeBase e f X.env (eval e X.env) = eval e X.env) (hK : X.K = K := by rfl) : PE X (.Attribute e f pos) (tFld K ta f) := by
  subst hK
  exact pe_fld he hb
theorem op_in_seqK (hK : X.K = K := by rfl) : OpR X (compareOp .In) (rIn K false) := by subst hK; exact op_in_seq
theorem op_notIn_seqK (hK : X.K = K := by rfl) : OpR X (compareOp .NotIn) (rIn K true) := by subst hK; exact op_notIn_seq
theorem call_len_seqK (hK : X.K = K := by rfl) : CallR X (.builtin "len") (fun xs H Q => ∃ p ys, xs = [.ref p] ∧ (SqL K H p ys ∨ SqT K H p ys) ∧ Q (.int ys.length) H) := by subst hK; exact call_len_seq
theorem op_catTK (hK : X.K = K := by rfl) : OpR X (binaryOp .Add) (rCatT K) := by subst hK; exact op_catT
theorem call_list_ofK (hK : X.K = K := by rfl) : CallR X (.type "list") (fun xs H Q => ∃ p ys, xs = [.ref p] ∧ (SqL K H p ys ∨ SqT K H p ys) ∧ ∀ l, H l = none → Q (.ref l) (upd H l (.lst ys))) := by subst hK; exact call_list_of
theorem pi_listK {tg e : Expr} {te : TE} (he : PE X e te) (hK : X.K = K := by rfl) : PI X tg e (iList K te) := by subst hK; exact pi_list he
end
section
variable {J : It} {n : Nat} {G : Hp → Prop} {Y : Nat → Hp → V → Hp → Prop}
/-- the outer walk of two -/
theorem lc2_it (w : Walk J n G Y) {g : TG} {tt : TT} {te1 : L2.St → Hp → (Hp → Prop) → Prop} {vs : List Nat} {σ : L2.St} {H1 : Hp} {D : Addr} {Qd : Hp → Prop} (Pv : Nat → Hp → Prop) (h0 : Pv 0 (upd H1 D (.lst []))) (hG : ∀ i H, i ≤ n → Pv i H → G H)
    (hs : ∀ i x H H', i < n → Pv i H → Y i H x H' → g x (wipe σ vs) H' fun σ2 H2 => wipe σ2 vs = wipe σ vs ∧ tt σ2 H2 fun b H3 => if b = true then te1 σ2 H3 (Pv (i + 1)) else Pv (i + 1) H3) (hd : ∀ H, Pv n H → Qd H) :
    ∃ W : Nat → Nat → Hp → Prop, (∃ m, W 0 m (upd H1 D (.lst []))) ∧ ∀ i m H, W i m H →
      (J.stop i H ∧ Qd H) ∨ (J.go i H ∧ ∃ Nx : Hp → Prop, (∀ H', Nx H' → ∃ m', m' < m ∧ W (i + 1) m' H') ∧ ∀ x H', J.yld i H x H' → g x (wipe σ vs) H' fun σ2 H2 => wipe σ2 vs = wipe σ vs ∧ tt σ2 H2 fun b H3 =>
        if b = true then te1 σ2 H3 Nx else Nx H3) := by
  refine ⟨fun i m H => m = n - i ∧ i ≤ n ∧ Pv i H, ⟨n, by simp, Nat.zero_le _, h0⟩, ?_⟩
  rintro i m H ⟨rfl, hi, p⟩
  have q := hG i H hi p
  by_cases hlt : i < n
  · refine .inr ⟨w.goes i H hlt q, Pv (i + 1), fun H' p' => ⟨n - (i + 1), by omega, rfl, hlt, p'⟩, fun x H' y => hs i x H H' hlt p (w.yields i H x H' hlt q y)⟩
  · have e : i = n := by omega
    subst e
    exact .inl ⟨w.stops H q, hd H p⟩
/-- the inner one -/
theorem lc2_in (w : Walk J n G Y) {g : TG} {tt : TT} {te : TE} {vs : List Nat} {σ : L2.St} {H4 : Hp} {D : Addr} {Nx : Hp → Prop} (Pv : Nat → Hp → Prop) (h0 : Pv 0 H4) (hG : ∀ i H, i ≤ n → Pv i H → G H)
    (hs : ∀ i x H H', i < n → Pv i H → Y i H x H' → g x (wipe σ vs) H' fun σ2 H2 => wipe σ2 vs = wipe σ vs ∧ tt σ2 H2 fun b H3 =>
      if b = true then te σ2 H3 fun y H4 => ∃ acc, H4 D = some (.lst acc) ∧ acc.length < sizeLine ∧ Pv (i + 1) (upd H4 D (.lst (acc ++ [y]))) else Pv (i + 1) H3) (hd : ∀ H, Pv n H → Nx H) :
    ∃ W1 : Nat → Nat → Hp → Prop, (∃ m, W1 0 m H4) ∧ ∀ j k H, W1 j k H →
      (J.stop j H ∧ Nx H) ∨ (J.go j H ∧ ∃ Nx1 : Hp → Prop, (∀ H', Nx1 H' → ∃ k', k' < k ∧ W1 (j + 1) k' H') ∧ ∀ x H', J.yld j H x H' → g x (wipe σ vs) H' fun σ3 H5 => wipe σ3 vs = wipe σ vs ∧ tt σ3 H5 fun b H6 =>
        if b = true then te σ3 H6 fun y H7 => ∃ acc, H7 D = some (.lst acc) ∧ acc.length < sizeLine ∧ Nx1 (upd H7 D (.lst (acc ++ [y]))) else Nx1 H6) := by
  refine ⟨fun i m H => m = n - i ∧ i ≤ n ∧ Pv i H, ⟨n, by simp, Nat.zero_le _, h0⟩, ?_⟩
  rintro i m H ⟨rfl, hi, p⟩
  have q := hG i H hi p
  by_cases hlt : i < n
  · refine .inr ⟨w.goes i H hlt q, Pv (i + 1), fun H' p' => ⟨n - (i + 1), by omega, rfl, hlt, p'⟩, fun x H' y => hs i x H H' hlt p (w.yields i H x H' hlt q y)⟩
  · have e : i = n := by omega
    subst e
    exact .inl ⟨w.stops H q, hd H p⟩
end
section
variable {H H' : Hp} {x : Addr} {u : HO}
theorem Cols.but (hx : H x = some u) (h1 : ∀ xs, u ≠ .tup xs) (e : ∀ b o, b ≠ x → H b = some o → H' b = some o) : ∀ {kvs : List (Key × V)} {cs : List Col}, Cols H kvs cs → Cols H' kvs cs
  | _, _, .nil => .nil
  | _, _, .cons q1 q2 => .cons (e _ _ (ne_of q1 hx fun z => h1 _ z.symm) q1) (q2.but hx h1 e)
theorem Tabs.but (hx : H x = some u) (h1 : ∀ xs, u ≠ .tup xs) (h2 : ∀ o v, u ≠ .frz o v) (e : ∀ b o, b ≠ x → H b = some o → H' b = some o) : ∀ {kvs : List (Key × V)} {ts : List Tab}, Tabs H kvs ts → Tabs H' kvs ts
  | _, _, .nil => .nil
  | _, _, .cons q1 q2 q3 => .cons (e _ _ (ne_of q1 hx fun z => h2 _ _ z.symm) q1) (q2.but hx h1 e) (q3.but hx h1 h2 e)
end
theorem lk_text {v w z : V} : ([(("text" : Str), v), (("found" : Str), w), (("tables" : Str), z)] : List (Str × V)).lookup ("text" : Str) = some v := rfl
theorem tabAt_mem {ts : List Tab} {t : Str} {cs : List Col} (h : tabAt ts t = some cs) : (t, cs) ∈ ts := by
  unfold tabAt at h
  obtain ⟨u, h1, h2⟩ := Option.map_eq_some_iff.mp h
  have e := List.find?_some h1
  have e : u.1 = t := by simpa using e
  have m := List.mem_of_find?_eq_some h1
  rw [← e, ← h2]
  exact m
theorem colAt_mem {cs : List Col} {y : Str} {c : Col} (h : colAt cs y = some c) : c ∈ cs ∧ c.name = y := by
  unfold colAt at h
  have e := List.find?_some h
  exact ⟨List.mem_of_find?_eq_some h, by simpa using e⟩
theorem tabAt_nodup {ts : List Tab} {t : Str} {cs : List Col} (nd : (ts.map Prod.fst).Nodup) (h : (t, cs) ∈ ts) : tabAt ts t = some cs := by
  induction ts with
  | nil => cases h
  | cons u ts ih =>
    obtain ⟨n, ds⟩ := u
    rw [tabAt_cons]
    rw [List.map_cons, List.nodup_cons] at nd
    rcases List.mem_cons.mp h with e | h
    · cases e
      rw [if_pos rfl]
    · rw [if_neg]
      · exact ih nd.2 h
      · intro e
        have e : n = t := e
        subst e
        have m := List.mem_map_of_mem (f := Prod.fst) h
        exact nd.1 m
theorem colAt_nodup {cs : List Col} {c : Col} (nd : (cs.map Col.name).Nodup) (h : c ∈ cs) : colAt cs c.name = some c := by
  induction cs with
  | nil => cases h
  | cons u cs ih =>
    rw [colAt_cons]
    rw [List.map_cons, List.nodup_cons] at nd
    rcases List.mem_cons.mp h with e | h
    · rw [e, if_pos rfl]
    · rw [if_neg]
      · exact ih nd.2 h
      · intro e
        have m := List.mem_map_of_mem (f := Col.name) h
        rw [← e] at m
        exact nd.1 m
theorem Cols.get {H : Hp} : ∀ {kvs : List (Key × V)} {cs : List Col} {i : Nat} {k : Key} {v : V}, Cols H kvs cs → kvs[i]? = some (k, v) → ∃ c a, cs[i]? = some c ∧ k = Sum.inr c.name ∧ v = .ref a ∧ H a = some (tol c)
  | _, _, i, k, v, .nil, h => by simp at h
  | _, _, 0, k, v, .cons h1 h2, h => by
    simp at h
    exact ⟨_, _, rfl, h.1.symm, h.2.symm, h1⟩
  | _, _, i + 1, k, v, .cons h1 h2, h => by
    obtain ⟨c, a, e1, e2⟩ := h2.get (i := i) (k := k) (v := v) (by simpa using h)
    exact ⟨c, a, by simpa using e1, e2⟩
end Ow

/-! Ow.W1: drawn words -/
namespace Ow
open PySem PySem.Spec L2 TL
/-- the word with a number among those of a size -/
def ltr (i : Nat) : Nat := 97 + i % 26
def lets (n : Nat) : Nat → List Nat
  | 0 => []
  | k + 1 => ltr n :: lets (n / 26) k
def lettersOf (n k : Nat) : Str := ⟨(lets n k).toArray⟩
theorem lets_len (n k : Nat) : (lets n k).length = k := by
  induction k generalizing n with
  | zero => rfl
  | succ k ih => rw [lets, List.length_cons, ih]
theorem lets_succ (n k : Nat) : lets n (k + 1) = lets n k ++ [ltr (n / 26 ^ k)] := by
  induction k generalizing n with
  | zero => simp [lets]
  | succ k ih =>
    rw [lets, ih, lets, List.cons_append, Nat.div_div_eq_div_mul, Nat.pow_succ, Nat.mul_comm (26 ^ k) 26]
theorem lets_low {n k c : Nat} (h : c ∈ lets n k) : 97 ≤ c ∧ c ≤ 122 := by
  induction k generalizing n with
  | zero => cases h
  | succ k ih =>
    rcases List.mem_cons.mp h with rfl | h
    · unfold ltr
      omega
    · exact ih h
theorem let_mem {c : Nat} (h : 97 ≤ c ∧ c ≤ 122) : c ∈ LET.cps.toList := by
  have q : ∀ i : Fin 26, 97 + i.val ∈ LET.cps.toList := by decide +kernel
  have := q ⟨c - 97, by omega⟩
  have e : 97 + (c - 97) = c := by omega
  rw [← e]
  exact this
theorem letters_isW {n k : Nat} (h1 : 1 ≤ k) (h8 : k ≤ 8) : isW (lettersOf n k) = true := by
  have e : (lettersOf n k).length = k := by
    show (lets n k).toArray.size = k
    rw [List.size_toArray, lets_len]
  unfold isW
  rw [e, decide_eq_true h1, decide_eq_true h8]
  show (lets n k).all _ = true
  rw [List.all_eq_true]
  intro c hc
  exact decide_eq_true (let_mem (lets_low hc))
theorem letters_inj {a b k : Nat} (h1 : 1 ≤ k) (h : lettersOf a k = lettersOf b k) : a % 26 = b % 26 := by
  have e : lets a k = lets b k := by
    have := congrArg (fun z : Str => z.cps.toList) h
    exact this
  cases k with
  | zero => omega
  | succ k =>
    rw [lets, lets] at e
    injection e with e _
    unfold ltr at e
    omega
/-! ### pigeons -/
theorem pigeon {α : Type} [DecidableEq α] : ∀ {l m : List α}, l.Nodup → (∀ x ∈ l, x ∈ m) → l.length ≤ m.length
  | [], _, _, _ => Nat.zero_le _
  | x :: l, m, h, hm => by
    rw [List.nodup_cons] at h
    have hx := hm x (List.mem_cons_self ..)
    have ih := pigeon (l := l) (m := m.erase x) h.2 fun y hy => by
      refine (List.mem_erase_of_ne fun e => ?_).mpr (hm y (List.mem_cons_of_mem _ hy))
      subst e
      exact h.1 hy
    rw [List.length_erase_of_mem hx] at ih
    have := List.length_pos_of_mem hx
    rw [List.length_cons]
    omega
/-- among so many words one is free -/
theorem word_free {n k : Nat} {taken : List Str} (h1 : 1 ≤ k) (h : taken.length ≤ 20) (all : ∀ t, t < taken.length + 4 → lettersOf (n + t) k ∈ taken ∨ lettersOf (n + t) k ∈ BAR) : False := by
  have nd : ((List.range (taken.length + 4)).map fun t => lettersOf (n + t) k).Nodup := by
    unfold List.Nodup
    rw [List.pairwise_map]
    refine List.Pairwise.imp_of_mem ?_ (List.nodup_range (n := taken.length + 4))
    intro a b ha hb hne e
    rw [List.mem_range] at ha hb
    have := letters_inj h1 e
    exact hne (by omega)
  have := pigeon (m := taken ++ BAR) nd fun x hx => by
    obtain ⟨t, ht, rfl⟩ := List.mem_map.mp hx
    rw [List.mem_range] at ht
    rcases all t ht with z | z
    · exact List.mem_append_left _ z
    · exact List.mem_append_right _ z
  rw [List.length_map, List.length_range, List.length_append] at this
  have e : BAR.length = 3 := rfl
  omega
def spLetters : Sp := fun vs H Q _ => ∃ n k : Nat, vs = [.int (n : Int), .int (k : Int)] ∧ n < 2 ^ 100 ∧ k ≤ 8 ∧ ∀ H', Same H H' → Q (.str (lettersOf n k)) H'
def spWord (K : PySem.W.Frag) : Sp := fun vs H Q _ => ∃ (p l : Addr) (n : Nat) (tk : List Str), vs = [.ref p, .ref l] ∧ PoolAt H p n ∧ n < 2 ^ 50 ∧ SqL K (less p H) l (tk.map V.str) ∧ tk.length ≤ 20 ∧
  ∀ H' z, Keep p H H' → PoolAt H' p (n + 2) → isW z = true → z ∉ tk → z ∉ BAR → Q (.str z) H'
end Ow

/-! Ow.W2: drawn tables -/
namespace Ow
open PySem PySem.Spec L2
/-- the tuples alone: they never change -/
def tups (H : Hp) : Hp := fun a => match H a with
  | some (.tup xs) => some (.tup xs)
  | _ => none
theorem tups_at {H : Hp} {a : Addr} {xs : List V} (h : H a = some (.tup xs)) : tups H a = some (.tup xs) := by unfold tups; rw [h]
theorem tups_some {H : Hp} {a : Addr} {o : HO} (h : tups H a = some o) : ∃ xs, o = .tup xs ∧ H a = some (.tup xs) := by
  unfold tups at h
  split at h
  · rename_i xs e
    cases h
    exact ⟨xs, rfl, e⟩
  · cases h
theorem tups_of {H H' : Hp} (e : ∀ a xs, H a = some (.tup xs) → H' a = some (.tup xs)) : Same (tups H) (tups H') := fun b o h => by
  obtain ⟨xs, rfl, h2⟩ := tups_some h
  exact tups_at (e _ _ h2)
theorem tups_same {H H' : Hp} (s : Same H H') : Same (tups H) (tups H') := tups_of fun a xs h => s _ _ h
theorem tups_keep {p : Addr} {H H' : Hp} {n : Nat} (k : Keep p H H') (hp : PoolAt H p n) : Same (tups H) (tups H') := tups_of fun a xs h => by
  obtain ⟨_, _, _, e, _⟩ := hp
  exact k _ _ (ne_of h e fun z => nomatch z) h
theorem tups_lst {H : Hp} {a : Addr} {xs ys : List V} (h : H a = some (.lst xs)) : Same (tups H) (tups (upd H a (.lst ys))) := tups_of fun b zs e => by
  rw [upd_ne (ne_of e h fun z => nomatch z)]
  exact e
theorem tups_in (H : Hp) : Same (tups H) H := fun b o h => by
  obtain ⟨xs, rfl, h2⟩ := tups_some h
  exact h2
def NmOk (ns : List Str) : Prop := ns.Nodup ∧ ∀ z ∈ ns, isW z = true ∧ z ∉ BAR
theorem NmOk.app {ns : List Str} {z : Str} (h : NmOk ns) (h1 : isW z = true) (h2 : z ∉ ns) (h3 : z ∉ BAR) : NmOk (ns ++ [z]) := by
  refine ⟨List.nodup_append.mpr ⟨h.1, by simp, fun a ha b hb e => ?_⟩, fun y hy => ?_⟩
  · rw [List.mem_singleton.mp hb] at e
    exact h2 (e ▸ ha)
  · rcases List.mem_append.mp hy with z' | z'
    · exact h.2 y z'
    · rw [List.mem_singleton.mp z']
      exact ⟨h1, h3⟩
/-- columns so far -/
structure ClOk (ns : List Str) (cs : List Col) : Prop where
  nd : (cs.map Col.name).Nodup
  cols : ∀ c ∈ cs, ColOk ns c
theorem ClOk.app {ns : List Str} {cs : List Col} {c : Col} (h : ClOk ns cs) (h1 : c.name ∉ cs.map Col.name) (h2 : ColOk ns c) : ClOk ns (cs ++ [c]) := by
  refine ⟨?_, fun d hd => ?_⟩
  · rw [List.map_append]
    refine List.nodup_append.mpr ⟨h.nd, by simp, fun a ha b hb e => ?_⟩
    rw [List.map_cons, List.map_nil, List.mem_singleton] at hb
    rw [hb] at e
    exact h1 (e ▸ ha)
  · rcases List.mem_append.mp hd with z | z
    · exact h.cols d z
    · rw [List.mem_singleton.mp z]
      exact h2
def spTables (K : PySem.W.Frag) : Sp := fun vs H Q _ => ∃ (p : Addr) (n most wid : Nat), vs = [.ref p, .int (most : Int), .int (wid : Int)] ∧ PoolAt H p n ∧ n < 2 ^ 40 ∧ 1 ≤ most ∧ most ≤ 5 ∧ wid ≤ 6 ∧
  ∀ H' l ts, Keep p H H' → H l = none → PoolAt H' p (n + 1000) → Dp K (less p H') (.ref l) (dTabs ts) → TabsOk ts → (∀ t ∈ ts, t.2.length ≤ wid) → Q (.ref l) H'
end Ow

/-! Ow.W3: lines, pairs, links: lengths and promises -/
namespace Ow
open PySem PySem.Spec L2 TL
theorem len_app (x y : Str) : (x ++ y).length = x.length + y.length := by rw [len_tl, tl_append, List.length_append, ← len_tl, ← len_tl]
theorem rul_len {z : Str} (h : z ∈ RUL) : z.length ≤ 8 := by
  have q : ∀ z ∈ RUL, z.length ≤ 8 := by decide +kernel
  exact q z h
theorem ColOk.lens {ns : List Str} {c : Col} (hn : ∀ t ∈ ns, isW t = true) (h : ColOk ns c) : c.kind.length ≤ 5 ∧ c.name.length ≤ 8 ∧ (oS c.tgt).length ≤ 8 ∧ (oS c.rule).length ≤ 8 := by
  refine ⟨?_, (isW_len h.w).2, ?_⟩
  · rcases h.k with ⟨e, _⟩ | ⟨e | e, _⟩ <;> rw [e] <;> decide +kernel
  · rcases h.k with ⟨_, t, r, e1, e2, h1, h2⟩ | ⟨_, e1, e2⟩
    · rw [e1, e2]
      exact ⟨(isW_len (hn t h1)).2, rul_len h2⟩
    · rw [e1, e2]
      exact ⟨by decide +kernel, by decide +kernel⟩
theorem TabsOk.names {ts : List Tab} (h : TabsOk ts) : ∀ t ∈ ts.map Prod.fst, isW t = true := fun t ht => by
  obtain ⟨u, hu, rfl⟩ := List.mem_map.mp ht
  exact (h.tab u hu).w
theorem lines_take {ts : List Tab} {i : Nat} {t : Tab} (h : ts[i]? = some t) : linesOf (ts.take (i + 1)) = linesOf (ts.take i) ++ lnT t := by
  unfold linesOf
  rw [List.take_add_one, h, List.flatMap_append]
  simp
theorem lines_len {ts : List Tab} (h : ∀ t ∈ ts, t.2.length ≤ 6) : (linesOf ts).length ≤ 7 * ts.length := by
  induction ts with
  | nil => simp [linesOf]
  | cons u ts ih =>
    have e : linesOf (u :: ts) = lnT u ++ linesOf ts := rfl
    have e2 : (lnT u).length = u.2.length + 1 := by unfold lnT; rw [List.length_cons, List.length_map]
    rw [e, List.length_append, e2, List.length_cons]
    have h1 := ih fun v hv => h v (List.mem_cons_of_mem _ hv)
    have h3 := h u (List.mem_cons_self ..)
    omega
/-- the lines are short, and none has a line feed -/
theorem line_ok {ts : List Tab} (h : TabsOk ts) : ∀ z ∈ linesOf ts, z.length ≤ 40 ∧ 10 ∉ tl z := by
  intro z hz
  obtain ⟨t, ht, hz⟩ := List.mem_flatMap.mp hz
  have hn := h.names
  have ok := h.tab t ht
  rcases List.mem_cons.mp hz with rfl | hz
  · have l8 := (isW_len ok.w).2
    have e : (("table " : Str)).length = 6 := by decide +kernel
    refine ⟨by rw [len_app, e]; omega, fun q => ?_⟩
    rw [tl_append] at q
    rcases List.mem_append.mp q with q | q
    · exact absurd q (by decide +kernel)
    · have := isW_low ok.w 10 q
      omega
  · obtain ⟨c, hc, rfl⟩ := List.mem_map.mp hz
    have co := ok.cols c hc
    obtain ⟨l1, l2, l3, l4⟩ := co.lens hn
    have e1 : ((" " : Str)).length = 1 := by decide +kernel
    have e0 : (("" : Str)).length = 0 := by decide +kernel
    have lowK : 10 ∉ tl c.kind := by rcases co.k with ⟨e, _⟩ | ⟨e | e, _⟩ <;> rw [e] <;> decide +kernel
    have lowN : 10 ∉ tl c.name := fun q => by have := isW_low co.w 10 q; omega
    have lowS : 10 ∉ tl (" " : Str) := by decide +kernel
    unfold lnC
    split
    · rename_i ek
      rcases co.k with ⟨_, t', r, e2, e3, h4, h5⟩ | ⟨ek', _⟩
      · refine ⟨by simp only [len_app, e1]; omega, fun q => ?_⟩
        simp only [tl_append, List.mem_append] at q
        rw [e2, e3] at q
        rcases q with ((q | q) | q) | (((q | q) | q) | q)
        · exact lowK q
        · exact lowS q
        · exact lowN q
        · exact lowS q
        · have := isW_low (hn t' h4) 10 q
          omega
        · exact lowS q
        · have := low_rul h5 10 q
          omega
      · rcases ek' with z | z <;> rw [z] at ek <;> exact absurd ek (by decide)
    · refine ⟨by simp only [len_app, e1, e0]; omega, fun q => ?_⟩
      simp only [tl_append, List.mem_append] at q
      rcases q with ((q | q) | q) | q
      · exact lowK q
      · exact lowS q
      · exact lowN q
      · exact absurd q (by decide +kernel)
theorem lines_ne {ts : List Tab} (h : TabsOk ts) : linesOf ts ≠ [] := by
  have p := h.pos
  cases ts with
  | nil => simp at p
  | cons t ts => exact fun z => nomatch z
/-- the text's lines -/
theorem text_lines {ts : List Tab} (h : TabsOk ts) : linesIn (Txt.join ("\n" : Str) (linesOf ts)) = linesOf ts :=
  TL.split_join (s := 10) (S := []) (by decide +kernel) (by decide +kernel) (lines_ne h) fun p hp => (line_ok h p hp).2
theorem sum_le {l : List Str} {m : Nat} (h : ∀ z ∈ l, z.length ≤ m) : (l.map (·.length)).sum ≤ l.length * m := by
  induction l with
  | nil => simp
  | cons z l ih =>
    rw [List.map_cons, List.sum_cons, List.length_cons, Nat.add_mul, Nat.one_mul]
    have h1 := h z (List.mem_cons_self ..)
    have h2 := ih fun y hy => h y (List.mem_cons_of_mem _ hy)
    omega
theorem join_len2 (y : Str) : ∀ l : List Str, (Str.join y l).length ≤ (l.map (·.length)).sum + l.length * y.length
  | [] => Nat.zero_le _
  | [x] => by simp [Str.join]
  | x :: z :: r => by
    have ih := join_len2 y (z :: r)
    show (x ++ y ++ Str.join y (z :: r)).length ≤ _
    rw [len_app, len_app, List.map_cons, List.sum_cons, List.length_cons, Nat.add_mul, Nat.one_mul]
    omega
theorem text_len {ts : List Tab} (h : TabsOk ts) : (Txt.join ("\n" : Str) (linesOf ts)).length ≤ 2000 := by
  rw [TL.join_eq]
  have h1 := sum_le fun z hz => (line_ok h z hz).1
  have h2 := lines_len fun t ht => (h.tab t ht).few
  have h3 := join_len2 ("\n" : Str) (linesOf ts)
  have h4 : (("\n" : Str)).length = 1 := by decide +kernel
  have h5 := h.few
  rw [h4] at h3
  omega
/-- a schema of good tables is read -/
theorem text_read {ts : List Tab} (h : TabsOk ts) : Short (linesIn (Txt.join ("\n" : Str) (linesOf ts))) ∧ readT (named (linesIn (Txt.join ("\n" : Str) (linesOf ts)))) (linesIn (Txt.join ("\n" : Str) (linesOf ts))) [] 0 = .ok ts := by
  rw [text_lines h]
  have h2 := lines_len fun t ht => (h.tab t ht).few
  have h5 := h.few
  exact ⟨⟨by omega, fun z hz => Nat.le_trans (line_ok h z hz).1 (by decide)⟩, read_lines h⟩
def pairsOf (ts : List Tab) : List (Str × Str) := ts.flatMap fun u => u.2.map fun c => (u.1, c.name)
def spLines (K : PySem.W.Frag) : Sp := fun vs H Q _ => ∃ (l : Addr) (ts : List Tab), vs = [.ref l] ∧ Dp K H (.ref l) (dTabs ts) ∧ TabsOk ts ∧ ∀ H' q, Same H H' → H q = none → H' q = some (.lst ((linesOf ts).map V.str)) → Q (.ref q) H'
def spPairs (K : PySem.W.Frag) : Sp := fun vs H Q _ => ∃ (l : Addr) (ts : List Tab), vs = [.ref l] ∧ Dp K H (.ref l) (dTabs ts) ∧ TabsOk ts ∧ ∀ H' q xs, Same H H' → H q = none → H' q = some (.lst xs) → DpAll K (tups H') xs ((pairsOf ts).map dPr) → Q (.ref q) H'
def spLks (K : PySem.W.Frag) : Sp := fun vs H Q _ => ∃ (l : Addr) (t : Str) (ts : List Tab), vs = [.ref l, .str t] ∧ Dp K H (.ref l) (dTabs ts) ∧ TabsOk ts ∧ ∀ H' q xs, Same H H' → H q = none → H' q = some (.lst xs) → DpAll K (tups H') xs ((linksTo ts t).map dPr) → Q (.ref q) H'
end Ow

/-! Ow.S8: len(o), x in o, o == x, o != x, str(o) by a class's own methods -/
namespace Ow
open PySem PySem.Spec PyProof.Rows L2
section
variable {X : Cx} {cls m : Str} {ps : List Str} {k : Nat} {sp : Sp}
/-- a method run somewhere below the body -/
theorem dun_run {pins : List (Addr × Obj)} {σ : L2.St} {H : Hp} {s : Shared} {A : Around} {f : Addr} {fd : FuncData} {us : List Value} {vs : List V} {Q : VK} (F : FnOk X.prog X.w X.K X.mg X.base CX0 k f fd ps sp) (hb : Binds X.K fd ps [])
    (hr : Room k A) (fr : A.frames = X.A.frames) (I : Inv X pins σ H s) (r : Vals vs us) (h : sp vs H Q E0) :
    wpAny (model X.prog X.w) A (call (.ref f) us) (fun u s' => ∃ v H', Inv X pins σ H' s' ∧ RelV v u ∧ Q v H') X.xe s := by
  have e0 : Env0 X.prog X.w X.K X.mg X.base A X.stack s H := by
    have e := I.env0
    exact ⟨by rw [fr]; exact e.frames, e.mod, e.bs, e.bsz, e.funs, e.frf, e.hok, e.bare⟩
  have hl := F.len _ _ _ _ h
  have hl2 : us.length = ps.length := by rw [← r.length]; exact hl
  refine wpAny_call (codeAny_mono (F.run A X.stack s H ⟨us, []⟩ us vs _ E0 hr e0 (by
    have := hb s us I.kIn (by simpa using hl2)
    simpa using this) r h) fun r s' hq => ?_)
  cases r with
  | error e => exact False.elim hq
  | ok fl =>
    cases fl with
    | ret w =>
      obtain ⟨z, H', I', rz, ez⟩ := I.after hq
      exact ⟨z, H', I', rz, ez⟩
    | next => exact False.elim hq
    | brk => exact False.elim hq
    | cont => exact False.elim hq
/-- len(o) -/
def rLenO (C : Addr) (sp : Sp) : List V → Hp → VK → Prop := fun xs H Q => ∃ (a dx : Addr) (fs : List (Str × V)), xs = [.ref a] ∧ H a = some (.ins C dx fs) ∧ sp [.ref a] H (fun v H' => ∃ n : Nat, v = .int (n : Int) ∧ n < 2 ^ 63 ∧ Q (.int (n : Int)) H') E0
theorem call_lenO (F : MtAt X.prog X.w X.K X.mg X.base cls "__len__" ps k sp) (hr : Room (k + 1) X.A) : CallR X (.builtin "len") (rLenO (He.ga X.K cls) sp) := by
  intro pins s σ H xs us Q I r h
  obtain ⟨a, dx, fs, rfl, ha, hsp⟩ := h
  obtain ⟨f, fd, hm, hb, hF⟩ := F
  obtain ⟨u, rfl, rx⟩ := vals1 r
  cases rx
  obtain ⟨mA, J, _⟩ := ins_get I.hok ha
  obtain ⟨od, J, _⟩ := J.look
  obtain ⟨m', hFr⟩ := I.fr
  refine PySem.W.len_K hFr I.ok.mod.kin J hm.at_ hm.fn ?_
  refine wpAny_mono (dun_run (A := X.A.in1) hF hb hr.in1 rfl I (vs := [.ref a]) (.cons rfl .nil) hsp) (fun u s' q => ?_) fun _ _ z => z
  obtain ⟨v, H', I', rv, n, rfl, hn, q⟩ := q
  obtain ⟨t, rfl⟩ := rv
  exact ⟨⟨by omega, by omega⟩, .int (n : Int), H', I'.tok _, ⟨_, rfl⟩, q⟩
/-- x in o -/
def rInO (C : Addr) (sp : Sp) : R2 := fun x y H Q => ∃ (a dx : Addr) (fs : List (Str × V)), y = .ref a ∧ H a = some (.ins C dx fs) ∧ sp [.ref a, x] H (fun v H' => ∃ b, v = .bl b ∧ Q (.bl b) H') E0
theorem op_inO (F : MtAt X.prog X.w X.K X.mg X.base cls "__contains__" ps k sp) (hr : Room k X.A) : OpR X (compareOp .In) (rInO (He.ga X.K cls) sp) := by
  intro pins s σ H x y v u Q I rx ry h
  obtain ⟨a, dx, fs, rfl, ha, hsp⟩ := h
  obtain ⟨f, fd, hm, hb, hF⟩ := F
  cases ry
  obtain ⟨mA, J, _⟩ := ins_get I.hok ha
  obtain ⟨od, J, _⟩ := J.look
  obtain ⟨m', hFr⟩ := I.fr
  refine PySem.W.in_K hFr I.ok.mod.kin J hm.at_ hm.fn ?_
  refine wpAny_mono (dun_run (A := X.A) hF hb hr rfl I (vs := [.ref a, x]) (.cons rfl (.cons rx .nil)) hsp) (fun u s' q => ?_) fun _ _ z => z
  obtain ⟨v, H', I', rv, b, rfl, q⟩ := q
  cases rv
  exact wpAny_truthy_bool ⟨.bl b, H', I', rfl, q⟩
/-- o == x -/
def rEqO (K : PySem.W.Frag) (C : Addr) (sp : Sp) : R2 := fun x y H Q => ∃ (a dx : Addr) (fs : List (Str × V)) (t : Value), x = .ref a ∧ H a = some (.ins C dx fs) ∧ TyX K H y t ∧ PySem.W.notFirst K C t = true ∧ sp [.ref a, y] H (fun v H' => ∃ b, v = .bl b ∧ Q (.bl b) H') E0
theorem op_eqO (F : MtAt X.prog X.w X.K X.mg X.base cls "__eq__" ps k sp) (hr : Room k X.A) : OpR X (compareOp .Eq) (rEqO X.K (He.ga X.K cls) sp) := by
  intro pins s σ H x y v u Q I rx ry h
  obtain ⟨a, dx, fs, t, rfl, ha, ty, hnf, hsp⟩ := h
  obtain ⟨f, fd, hm, hb, hF⟩ := F
  cases rx
  obtain ⟨mA, J, _⟩ := ins_get I.hok ha
  obtain ⟨od, J, _⟩ := J.look
  obtain ⟨m', hFr⟩ := I.fr
  obtain ⟨P, Z, p, _⟩ := kit_of I ry ty
  show wpAny (model X.prog X.w) X.A (richCompare .Eq (.ref a) u) (EP X pins σ Q) X.xe s
  refine PySem.W.cmp_K (op := .Eq) (tb := t) hr.units0 hFr I.ok.mod.kin J (Z.ty _ _ I.kIn p) hnf hm.at_ hm.fn ?_
  refine wpAny_mono (dun_run (A := X.A) hF hb hr rfl I (vs := [.ref a, y]) (.cons rfl (.cons ry .nil)) hsp) (fun u s' q => ?_) fun _ _ z => z
  obtain ⟨v, H', I', rv, b, rfl, q⟩ := q
  cases rv
  exact ⟨.bl b, H', I', rfl, q⟩
/-- o != x, where the class has no __ne__ of its own -/
def NeB (K : PySem.W.Frag) (C : Addr) : Prop := PySem.W.findIn K (.ref C) "__ne__" = some (some (.builtin "object.__ne__")) ∧ PySem.W.subIn K (.ref C) (.type "object") = some true
theorem objNe_own {A : Around} {E : Value → Shared → Prop} {s : Shared} {K : PySem.W.Frag} {x C f : Addr} {ox : Obj} {od : Option Obj} {b : Value} {Q : Fin → Shared → Prop} (XK : K.In s.heap) (I : PySem.W.InstAt s.heap x ox C od) (hs : PySem.W.findIn K (.ref C) "__eq__" = some (some (.ref f))) (hf : PySem.W.isFn K (.ref f) = true) (hu : A.units < cLine)
    (hcall : wpAny (model X.prog X.w) A (call (.ref f) [.ref x, b]) (fun v s' => ∃ r, v = .bool r ∧ Q (.done (.ret (.bool (!r)))) s') E s) :
    wpAny (model X.prog X.w) A (Builtin.«object.__ne__» ⟨[.ref x, b], []⟩) Q E s := by
  unfold Builtin.«object.__ne__»
  repeat (first
    | with_reducible refine wpAny_cRoomFor hu ?_
    | (refine wpAny_bind (m := callSpecialIfBound? (.ref x) (Str.ofString "__eq__") [b])
        (PySem.W.ifBound_K XK I hs hf (wpAny_mono hcall (fun r s' hr => by
          obtain ⟨b, rfl, hq⟩ := hr
          repeat (first | exact hq | exact wpAny_pure hq | exact wpAny_truthy_bool hq | (refine wpAny_bind (m := truthy (.bool _)) (wpAny_truthy_bool ?_)) | wp_step)) fun _ _ e => e)))
    | wp_step)
theorem ifBound_slot {M : Model} {A : Around} {E : Value → Shared → Prop} {s : Shared} {K : PySem.W.Frag} {x C : Addr} {ox : Obj} {od : Option Obj} {B : String} {name : Str} {id : String} {args : List Value} {Q : Option Value → Shared → Prop} (XK : K.In s.heap) (I : PySem.W.InstAt s.heap x ox C od) (hs : PySem.W.findIn K (.ref C) name = some (some (.builtin id))) (S : Slot B name id)
    (h : wpAny M A (call (.builtin id) (.ref x :: args)) (fun v => Q (some v)) E s) : wpAny M A (callSpecialIfBound? (.ref x) name args) Q E s := by
  simp only [callSpecialIfBound?, bindSpecialIfBound?]
  refine wpAny_holding (wpAny_bind (wpAny_bind (wpAny_bind (I.type.here ((PySem.W.looks_findIn XK hs).here ?_)))))
  simp only [S.bind]
  refine wpAny_bind (wpAny_askSetting (wpAny_ite ?_))
  have fin : wpAny M A (call (.builtin id) ([.ref x] ++ args) >>= fun v => pure (some v)) Q E s := wpAny_bind (wpAny_mono h (fun v s' h' => wpAny_pure h') fun _ _ h' => h')
  split
  · exact wpAny_bind (wpAny_pure (wpAny_pure fin))
  · exact wpAny_tryCatch (wpAny_bind (wpAny_pure (wpAny_pure fin)))
theorem check_slotK {M : Model} {A : Around} {E : Value → Shared → Prop} {s : Shared} {K : PySem.W.Frag} {x C : Addr} {ox : Obj} {od : Option Obj} {id owner n : String} {rest : List Value} {Q : Unit → Shared → Prop} (hk : builtinKind id = some .slot) (hs : splitId id = some (owner, n))
    (ha : argsOk id ⟨.ref x :: rest, []⟩) (XK : K.In s.heap) (I : PySem.W.InstAt s.heap x ox C od) (hsub : PySem.W.subIn K (.ref C) (.type owner) = some true) (hq : Q () s) :
    wpAny M A (checkBuiltinCall id ⟨.ref x :: rest, []⟩) Q E s := by
  simp only [checkBuiltinCall, hk, hs]
  refine wpAny_bind ?_
  unfold isInstance
  refine wpAny_bind (I.type.here ((PySem.W.looks_subIn XK hsub).here ?_))
  simp only [if_true, Bool.not_true, Bool.false_eq_true, if_false]
  cases hsig : Manifest.signature? id with
  | none => first | exact wpAny_pure hq | exact hq
  | some sig =>
    simp only [argsOk, hsig] at ha
    first
      | exact wpAny_of_eq ha hq
      | (simp only [ha]; exact wpAny_pure hq)
      | exact ha _ _ _ hq
/-- o != x of two instances of one class -/
def rNeO (C : Addr) (sp : Sp) : R2 := fun x y H Q => ∃ (a b dx dy : Addr) (fs gs : List (Str × V)), x = .ref a ∧ y = .ref b ∧ H a = some (.ins C dx fs) ∧ H b = some (.ins C dy gs) ∧ sp [.ref a, .ref b] H (fun v H' => ∃ r, v = .bl r ∧ Q (.bl (!r)) H') E0
theorem op_neO (F : MtAt X.prog X.w X.K X.mg X.base cls "__eq__" ps k sp) (N : NeB X.K (He.ga X.K cls)) (hr : Room (k + 1) X.A) : OpR X (compareOp .NotEq) (rNeO (He.ga X.K cls) sp) := by
  intro pins s σ H x y v u Q I rx ry h
  obtain ⟨a, b, dx, dy, fs, gs, rfl, rfl, ha, hb', hsp⟩ := h
  obtain ⟨f, fd, hm, hb, hF⟩ := F
  cases rx
  cases ry
  obtain ⟨mA, J, _⟩ := ins_get I.hok ha
  obtain ⟨od, J, _⟩ := J.look
  obtain ⟨mB, J', _⟩ := ins_get I.hok hb'
  obtain ⟨od', J', _⟩ := J'.look
  show wpAny (model X.prog X.w) X.A (richCompare .NotEq (.ref a) (.ref b)) (EP X pins σ Q) X.xe s
  have one : wpAny (model X.prog X.w) X.A (tryCompare (.ref a) "__ne__" (.ref b)) (fun r s' => ∃ v, r = some v ∧ EP X pins σ Q v s') X.xe s := by
    simp only [tryCompare]
    refine wpAny_bind (ifBound_slot I.kIn J N.1 F.cmp_object.ne (wpAny_call (codeAny_call_builtin F.cmp_object.ne.plain F.cmpEntry_ne
      (check_slotK F.cmpKind_ne F.cmpSplit_ne (F.cmpArgs_ne _ _) I.kIn J N.2
        (objNe_own (A := X.A.in1) I.kIn J hm.at_ hm.fn hr.in1.units0 (wpAny_mono (dun_run (A := X.A.in1) hF hb hr.in1 rfl I (vs := [.ref a, .ref b]) (.cons rfl (.cons rfl .nil)) hsp) (fun u s' q => ?_) fun _ _ z => z))))))
    obtain ⟨v, H', I', rv, r, rfl, q⟩ := q
    cases rv
    refine ⟨r, rfl, ?_⟩
    first
      | exact wpAny_pure ⟨_, rfl, .bl (!r), H', I', rfl, q⟩
      | exact wpAny_pure (wpAny_pure ⟨_, rfl, .bl (!r), H', I', rfl, q⟩)
      | exact ⟨_, rfl, .bl (!r), H', I', rfl, q⟩
  unfold richCompare
  simp only [oneThing_ref]
  refine wpAny_holding (wpAny_bind (wpAny_cRoomFor hr.units0 ?_))
  rw [cmpInfo_NotEq]
  dsimp only
  refine wpAny_bind (J.type.here (wpAny_bind (J'.type.here ?_)))
  rw [show (Value.ref (He.ga X.K cls) != Value.ref (He.ga X.K cls)) = false from by simp]
  simp only [Bool.false_eq_true, if_false]
  refine wpAny_bind (wpAny_pure ?_)
  simp only [Bool.false_eq_true, if_false]
  refine wpAny_bind (wpAny_mono one (fun r s' z => ?_) fun _ _ e => e)
  obtain ⟨v, rfl, hq⟩ := z
  exact wpAny_pure hq
/-- str(o) -/
def rStrO (C : Addr) (sp : Sp) : List V → Hp → VK → Prop := fun xs H Q => ∃ (a dx : Addr) (fs : List (Str × V)), xs = [.ref a] ∧ H a = some (.ins C dx fs) ∧ sp [.ref a] H (fun v H' => ∃ z, v = .str z ∧ Q (.str z) H') E0
theorem call_strO (F : MtAt X.prog X.w X.K X.mg X.base cls "__str__" ps k sp) (hr : Room (k + 2) X.A) : CallR X (.type "str") (rStrO (He.ga X.K cls) sp) := by
  intro pins s σ H xs us Q I r h
  obtain ⟨a, dx, fs, rfl, ha, hsp⟩ := h
  obtain ⟨f, fd, hm, hb, hF⟩ := F
  obtain ⟨u, rfl, rx⟩ := vals1 r
  cases rx
  obtain ⟨mA, J, _⟩ := ins_get I.hok ha
  obtain ⟨od, J, _⟩ := J.look
  refine PySem.W.kso_call hr.in1.in1.units0 I.kIn J hm.at_ hm.fn ?_
  refine wpAny_mono (dun_run (A := X.A.in1.in1) hF hb hr.in1.in1 rfl I (vs := [.ref a]) (.cons rfl .nil) hsp) (fun u s' q => ?_) fun _ _ z => z
  obtain ⟨v, H', I', rv, z, rfl, q⟩ := q
  obtain ⟨t, rfl⟩ := rv
  exact ⟨.str z, H', I', ⟨t, rfl⟩, q⟩
end
end Ow

/-! Ow.S9: data of a shape; in of tuples at any depth; promises of a Schema's own methods -/
namespace Ow
open PySem PySem.Spec PyProof.Rows L2 TL
/-- texts of signs, nested at most n deep -/
inductive Shp : Nat → PyData → Prop
  | non {n : Nat} : Shp n .none
  | bl {n : Nat} (b : Bool) : Shp n (.bool b)
  | int {n : Nat} (i : Int) : Shp n (.int i)
  | str {n : Nat} {z : Str} : PyData.strOk z = true → Shp n (.str z)
  | lst {n : Nat} {ds : List PyData} : (∀ d ∈ ds, Shp n d) → Shp (n + 1) (.list ds)
  | tup {n : Nat} {ds : List PyData} : (∀ d ∈ ds, Shp n d) → Shp (n + 1) (.tuple ds)
theorem lay_all : ∀ {ds : List PyData}, (∀ d ∈ ds, d.canLay0 = true) → PyData.canLayAll0 ds = true
  | [], _ => rfl
  | d :: ds, h => by
    unfold PyData.canLayAll0
    rw [h d (List.mem_cons_self ..), lay_all fun e he => h e (List.mem_cons_of_mem _ he)]
    rfl
theorem depth_all {n : Nat} : ∀ {ds : List PyData}, (∀ d ∈ ds, d.depth ≤ n) → PyData.depthAll ds ≤ n
  | [], _ => by simp [PyData.depthAll]
  | d :: ds, h => by
    have h1 := h d (List.mem_cons_self ..)
    have h2 := depth_all (n := n) fun e he => h e (List.mem_cons_of_mem _ he)
    simp only [PyData.depthAll]
    omega
theorem Shp.ok : ∀ {n : Nat} {d : PyData}, Shp n d → d.canLay0 = true ∧ d.depth ≤ n + 1 := by
  intro n d h
  induction h with
  | non => exact ⟨rfl, by simp [PyData.depth]⟩
  | bl b => exact ⟨rfl, by simp [PyData.depth]⟩
  | int i => exact ⟨rfl, by simp [PyData.depth]⟩
  | str h => exact ⟨h, by simp [PyData.depth]⟩
  | lst h ih =>
    refine ⟨by unfold PyData.canLay0; exact lay_all fun d hd => (ih d hd).1, ?_⟩
    have := depth_all fun d hd => (ih d hd).2
    simp only [PyData.depth]
    omega
  | tup h ih =>
    refine ⟨by unfold PyData.canLay0; exact lay_all fun d hd => (ih d hd).1, ?_⟩
    have := depth_all fun d hd => (ih d hd).2
    simp only [PyData.depth]
    omega
theorem Shp.shaped {n : Nat} {d : PyData} (h : Shp n d) (hn : n ≤ 60) : SeqAt.shaped d = true := by
  obtain ⟨h1, h2⟩ := h.ok
  unfold SeqAt.shaped
  rw [h1, decide_eq_true (by omega)]
  rfl
theorem strOk_low {z : Str} (h : ∀ c ∈ tl z, c < 0x110000) : PyData.strOk z = true := by
  unfold PyData.strOk
  rw [← Array.all_toList, List.all_eq_true]
  intro c hc
  exact decide_eq_true (h c hc)
theorem strOk_word {z : Str} (h : isW z = true) : PyData.strOk z = true := strOk_low fun c hc => by
  have := isW_low h c hc
  omega
theorem shp_strs {n : Nat} {zs : List Str} (h : ∀ z ∈ zs, PyData.strOk z = true) : ∀ d ∈ zs.map PyData.str, Shp n d := fun d hd => by
  obtain ⟨z, hz, rfl⟩ := List.mem_map.mp hd
  exact .str (h z hz)
/-! ### in, of lists and tuples -/
section
variable {X : Cx}
def rInDS (K : PySem.W.Frag) : R2 := fun x y H Q => ∃ d ds, Dp K H x d ∧ (Dp K H y (.list ds) ∨ Dp K H y (.tuple ds)) ∧ SeqAt.shaped d = true ∧ SeqAt.shaped (.list ds) = true ∧ Q (.bl (ds.any fun z => PyData.eqv z d)) H
theorem op_inDS (hu : X.A.units + 65 < cLine) : OpR X (compareOp .In) (rInDS X.K) := by
  intro pins s σ H x y v u Q I rx ry h
  obtain ⟨d, ds, hd, he, sd, se, q⟩ := h
  obtain ⟨as, r1⟩ := Dp.reads I d x v hd rx
  rcases he with he | he
  · obtain ⟨bs, r2⟩ := Dp.reads I (.list ds) y u he ry
    exact SeqAt.in_list_reads r2 r1 (SeqAt.canLay_of_shaped se) (SeqAt.canLay_of_shaped sd) (room_in_shaped sd hu) ⟨.bl _, H, I, rfl, q⟩
  · obtain ⟨bs, r2⟩ := Dp.reads I (.tuple ds) y u he ry
    exact SeqAt.in_tuple_reads r2 r1 (SeqAt.canLay_of_shaped se) (SeqAt.canLay_of_shaped sd) (room_in_shaped sd hu) ⟨.bl _, H, I, rfl, q⟩
end
/-! ### facts for isinstance, == -/
structure ScI (K : PySem.W.Frag) : Prop where
  ins : ∀ {H : Hp} {a dx : Addr} {fs : List (Str × V)}, H a = some (.ins (He.ga K "Schema") dx fs) → TyX K H (.ref a) (.ref (He.ga K "Schema"))
  own : PySem.W.kitOne K (.ref (He.ga K "Schema")) (.ref (He.ga K "Schema")) = some true
  oth : ∀ T ∈ ["NoneType", "str", "int", "tuple"], PySem.W.kitOne K (.type T) (.ref (He.ga K "Schema")) = some false ∧ PySem.W.notFirst K (He.ga K "Schema") (.type T) = true
  ne : NeB K (He.ga K "Schema")
/-! ### promises -/
def spLenS (K : PySem.W.Frag) : Sp := fun vs H Q _ => ∃ (x : Addr) (z : Str) (ts : List Tab), vs = [.ref x] ∧ SchAt K H x z ts ∧ Q (.int (ts.length : Nat)) H
def spStrS (K : PySem.W.Frag) : Sp := fun vs H Q _ => ∃ (x : Addr) (z : Str) (ts : List Tab), vs = [.ref x] ∧ SchAt K H x z ts ∧ Q (.str z) H
def spEqS (K : PySem.W.Frag) : Sp := fun vs H Q _ => ∃ (x : Addr) (z : Str) (ts : List Tab) (y : V), vs = [.ref x, y] ∧ SchAt K H x z ts ∧
  ((∃ x' z' ts', y = .ref x' ∧ SchAt K H x' z' ts' ∧ Q (.bl (decide (V.str z = V.str z'))) H) ∨ ((∃ T ∈ ["NoneType", "str", "int", "tuple"], TyX K H y (.type T)) ∧ Q (.bl false) H))
/-- whether a thing is in a schema -/
def inSch (ts : List Tab) : PyData → Bool
  | .str z => decide (z ∈ ts.map Prod.fst)
  | .tuple [.str a, .str b] => decide ((a, b) ∈ pairsOf ts)
  | _ => false
/-- the things that are asked: flat ones, lists and tuples of texts and None -/
inductive Thg : PyData → Prop
  | non : Thg .none
  | bl (b : Bool) : Thg (.bool b)
  | int (i : Int) : Thg (.int i)
  | str {z : Str} : PyData.strOk z = true → Thg (.str z)
  | lst {os : List (Option Str)} : (∀ z, some z ∈ os → PyData.strOk z = true) → Thg (.list (os.map oD))
  | tup {os : List (Option Str)} : (∀ z, some z ∈ os → PyData.strOk z = true) → Thg (.tuple (os.map oD))
def spInS (K : PySem.W.Frag) : Sp := fun vs H Q _ => ∃ (x : Addr) (z : Str) (ts : List Tab) (v : V) (d : PyData), vs = [.ref x, v] ∧ SchAt K H x z ts ∧ TabsOk ts ∧ Dp K H v d ∧ Thg d ∧ ∀ H', Same H H' → Q (.bl (inSch ts d)) H'
end Ow

/-! Ow.B1: comprehensions over data; new objects -/
namespace Ow
open PySem PySem.Spec PyProof.Rows L2
section
variable {K : PySem.W.Frag}
/-- where a comprehension stands behind i turns: its list, as data -/
structure LcP (K : PySem.W.Frag) {α : Type} (H1 : Hp) (D : Addr) (l : List α) (g : α → Option PyData) (i : Nat) (H : Hp) : Prop where
  same : Same H1 H
  ex : ∃ ys, H D = some (.lst ys) ∧ DpAll K (less D H) ys ((l.take i).filterMap g) ∧ ys.length ≤ i
section
variable {α : Type} {H1 : Hp} {D : Addr} {l : List α} {g : α → Option PyData} {i : Nat} {H : Hp}
theorem LcP.step {x : α} {H4 : Hp} {y : V} {d : PyData} (P : LcP K H1 D l g i H) (hl : l.length ≤ 100000) (s : Same H H4) (hx : l[i]? = some x) (hg : g x = some d) (hd : Dp K (less D H4) y d) (hD : H1 D = none) :
    ∃ acc, H4 D = some (.lst acc) ∧ acc.length < sizeLine ∧ LcP K H1 D l g (i + 1) (upd H4 D (.lst (acc ++ [y]))) := by
  obtain ⟨s1, ys, h1, h2, h3⟩ := P
  have hi : i < l.length := (List.getElem?_eq_some_iff.mp hx).1
  have e : ∀ o, Same (less D H4) (less D (upd H4 D o)) := fun o => less_keep keep_upd
  refine ⟨ys, s _ _ h1, by rw [sizeLine_eq]; omega, ?_, _, upd_same, ?_, by rw [List.length_append]; simp; omega⟩
  · exact fun b o q => by rw [upd_ne (ne_of_none q hD)]; exact s _ _ (s1 _ _ q)
  · rw [List.take_add_one, hx, List.filterMap_append]
    refine DpAll.app (DpAll.same ((less_mono s).trans (e _)) _ _ h2) ?_
    have e2 : List.filterMap g (some x).toList = [d] := by simp [hg]
    rw [e2]
    exact .cons (Dp.same (e _) _ _ hd) .nil
theorem LcP.skip {x : α} {H4 : Hp} (P : LcP K H1 D l g i H) (s : Same H H4) (hx : l[i]? = some x) (hg : g x = none) : LcP K H1 D l g (i + 1) H4 := by
  obtain ⟨s1, ys, h1, h2, h3⟩ := P
  refine ⟨s1.trans s, ys, s _ _ h1, ?_, by omega⟩
  rw [List.take_add_one, hx, List.filterMap_append]
  have e2 : List.filterMap g (some x).toList = [] := by simp [hg]
  rw [e2, List.append_nil]
  exact DpAll.same (less_mono s) _ _ h2
theorem LcP.ne {q : Addr} (P : LcP K H1 D l g i H) (h : H q = none) : q ≠ D := by
  obtain ⟨_, ys, h1, _⟩ := P
  exact (ne_of_none h1 h).symm
/-- what stood ahead is not the new list -/
theorem Dp.off {v : V} {d : PyData} {H' : Hp} (h : Dp K H1 v d) (hD : H1 D = none) (s : Same H1 H') : Dp K (less D H') v d :=
  Dp.same (fun b o e => by rw [less_ne (ne_of_none e hD)]; exact s _ _ e) _ _ h
theorem DpAll.off {v : List V} {d : List PyData} {H' : Hp} (h : DpAll K H1 v d) (hD : H1 D = none) (s : Same H1 H') : DpAll K (less D H') v d :=
  DpAll.same (fun b o e => by rw [less_ne (ne_of_none e hD)]; exact s _ _ e) _ _ h
end
theorem lc_dat {α : Type} {f : α → PyData} {l : List α} {a : Addr} {xs : List V} {tg : TG} {tt : TT} {te : TE} {vs : List Nat} {σ : L2.St} {H1 : Hp} {D : Addr} {Qd : Hp → Prop} (g : α → Option PyData)
    (hD : H1 D = none) (hS : SqL K H1 a xs) (hx : DpAll K H1 xs (l.map f))
    (hs : ∀ i v x H, xs[i]? = some v → l[i]? = some x → Dp K H v (f x) → LcP K H1 D l g i H → tg v (wipe σ vs) H fun σ2 H2 => wipe σ2 vs = wipe σ vs ∧ tt σ2 H2 fun b H3 =>
      if b = true then te σ2 H3 fun y H4 => ∃ acc, H4 D = some (.lst acc) ∧ acc.length < sizeLine ∧ LcP K H1 D l g (i + 1) (upd H4 D (.lst (acc ++ [y]))) else LcP K H1 D l g (i + 1) H3)
    (hd : ∀ H ys, Same H1 H → H D = some (.lst ys) → DpAll K (less D H) ys (l.filterMap g) → Qd H) :
    ∃ W : Nat → Nat → Hp → Prop, (∃ m, W 0 m (upd H1 D (.lst []))) ∧ ∀ i m H, W i m H →
      ((Itl K a).stop i H ∧ Qd H) ∨ ((Itl K a).go i H ∧ ∃ Nx : Hp → Prop, (∀ H', Nx H' → ∃ m', m' < m ∧ W (i + 1) m' H') ∧ ∀ x H', (Itl K a).yld i H x H' → tg x (wipe σ vs) H' fun σ2 H2 => wipe σ2 vs = wipe σ vs ∧ tt σ2 H2 fun b H3 =>
        if b = true then te σ2 H3 fun y H4 => ∃ acc, H4 D = some (.lst acc) ∧ acc.length < sizeLine ∧ Nx (upd H4 D (.lst (acc ++ [y]))) else Nx H3) := by
  have hxl := DpAll.len hx
  rw [List.length_map] at hxl
  refine lc_list (K := K) (a := a) (xs := xs) (LcP K H1 D l g) ⟨same_upd hD, [], upd_same, by simpa using DpAll.nil, Nat.le_refl _⟩ (fun i H _ P => P.same.seq hS) (fun i v H hv P => ?_) (fun H P => ?_)
  · obtain ⟨x, h1, h2⟩ := dp_at hx hv
    exact hs i v x H hv h1 (Dp.same P.same _ _ h2) P
  · obtain ⟨s1, ys, h1, h2, h3⟩ := P
    rw [hxl, List.take_length] at h2
    exact hd H ys s1 h1 h2
/-- over a tuple -/
theorem lc_datT {α : Type} {f : α → PyData} {l : List α} {a : Addr} {xs : List V} {tg : TG} {tt : TT} {te : TE} {vs : List Nat} {σ : L2.St} {H1 : Hp} {D : Addr} {Qd : Hp → Prop} (g : α → Option PyData)
    (hD : H1 D = none) (hS : SqT K H1 a xs) (hx : DpAll K H1 xs (l.map f))
    (hs : ∀ i v x H, xs[i]? = some v → l[i]? = some x → Dp K H v (f x) → LcP K H1 D l g i H → tg v (wipe σ vs) H fun σ2 H2 => wipe σ2 vs = wipe σ vs ∧ tt σ2 H2 fun b H3 =>
      if b = true then te σ2 H3 fun y H4 => ∃ acc, H4 D = some (.lst acc) ∧ acc.length < sizeLine ∧ LcP K H1 D l g (i + 1) (upd H4 D (.lst (acc ++ [y]))) else LcP K H1 D l g (i + 1) H3)
    (hd : ∀ H ys, Same H1 H → H D = some (.lst ys) → DpAll K (less D H) ys (l.filterMap g) → Qd H) :
    ∃ W : Nat → Nat → Hp → Prop, (∃ m, W 0 m (upd H1 D (.lst []))) ∧ ∀ i m H, W i m H →
      ((Itt K a).stop i H ∧ Qd H) ∨ ((Itt K a).go i H ∧ ∃ Nx : Hp → Prop, (∀ H', Nx H' → ∃ m', m' < m ∧ W (i + 1) m' H') ∧ ∀ x H', (Itt K a).yld i H x H' → tg x (wipe σ vs) H' fun σ2 H2 => wipe σ2 vs = wipe σ vs ∧ tt σ2 H2 fun b H3 =>
        if b = true then te σ2 H3 fun y H4 => ∃ acc, H4 D = some (.lst acc) ∧ acc.length < sizeLine ∧ Nx (upd H4 D (.lst (acc ++ [y]))) else Nx H3) := by
  have hxl := DpAll.len hx
  rw [List.length_map] at hxl
  refine lc_it (walk_tup (K := K) (a := a) (xs := xs)) (LcP K H1 D l g) ⟨same_upd hD, [], upd_same, by simpa using DpAll.nil, Nat.le_refl _⟩ (fun i H _ P => Same.sqT P.same hS) (fun i v H H' _ P y => ?_) (fun H P => ?_)
  · obtain ⟨rfl, hv⟩ := y
    obtain ⟨x, h1, h2⟩ := dp_at hx hv
    exact hs i v x _ hv h1 (Dp.same P.same _ _ h2) P
  · obtain ⟨s1, ys, h1, h2, h3⟩ := P
    rw [hxl, List.take_length] at h2
    exact hd H ys s1 h1 h2
/-- a new object -/
theorem al_s {H H' : Hp} {q : Addr} {o : HO} (e : upd H q o = H') (h : H q = none) : Same H H' := by subst e; exact same_upd h
theorem al_v {H H' : Hp} {q : Addr} {o : HO} (e : upd H q o = H') : H' q = some o := by subst e; exact upd_same
/-- data at a new object -/
theorem dp_tup {H : Hp} {q : Addr} {vs : List V} {ds : List PyData} (h : H q = some (.tup vs)) (d : DpAll K H vs ds) : Dp K H (.ref q) (.tuple ds) := .tup (SqT.of h) d
theorem dp_lst {H : Hp} {q : Addr} {vs : List V} {ds : List PyData} (h : H q = some (.lst vs)) (d : DpAll K H vs ds) : Dp K H (.ref q) (.list ds) := .lst (SqL.of h) d
theorem dps_s {H : Hp} {z : Str} {vs : List V} {ds : List PyData} (d : DpAll K H vs ds) : DpAll K H (.str z :: vs) (.str z :: ds) := .cons (.str z) d
theorem dps_n {H : Hp} {vs : List V} {ds : List PyData} (d : DpAll K H vs ds) : DpAll K H (.non :: vs) (.none :: ds) := .cons .non d
end
section
variable {X : Cx} {cls : Str} {ps : List Str} {k : Nat} {sp : Sp} {K : PySem.W.Frag}
theorem op_eqOK (F : MtAt X.prog X.w X.K X.mg X.base cls "__eq__" ps k sp) (hr : Room k X.A) (hK : X.K = K := by rfl) : OpR X (compareOp .Eq) (rEqO K (He.ga K cls) sp) := by
  subst hK
  exact op_eqO F hr
end
end Ow
/-! Ow.B2: types of data; two tests of two -/
namespace Ow
open PySem PySem.Spec PyProof.Rows L2
def tyN : PyData → String
  | .none => "NoneType"
  | .bool _ => "bool"
  | .int _ => "int"
  | .str _ => "str"
  | .list _ => "list"
  | .tuple _ => "tuple"
  | .dict _ => "dict"
def isSt : PyData → Bool
  | .str _ => true
  | _ => false
def isTu : PyData → Bool
  | .tuple _ => true
  | _ => false
section
variable {K : PySem.W.Frag} {H : Hp}
theorem ty_T {a : Addr} {xs : List V} (h : SqT K H a xs) : TyX K H (.ref a) (.type "tuple") := by
  rcases h with (h | ⟨o, h⟩) | ⟨o, its, n, h1, h2, _⟩
  · exact .base (.tup h)
  · exact .fTuple h
  · exact .kTuple h1 h2
theorem ty_L {a : Addr} {xs : List V} (h : SqL K H a xs) : TyX K H (.ref a) (.type "list") := by
  rcases h with (h | ⟨o, h⟩) | ⟨o, its, n, h1, h2, _⟩
  · exact .base (.lst h)
  · exact .base (.frz h)
  · exact .kList h1 h2
theorem ty_dp {v : V} {d : PyData} (h : Dp K H v d) : TyX K H v (.type (tyN d)) := by
  cases h with
  | non => exact .base .non
  | bl b => exact .base (.bl b)
  | int i => exact .base (.int i)
  | str z => exact .base (.str z)
  | lst h _ => exact ty_L h
  | tup h _ => exact ty_T h
theorem isi_str (d : PyData) : PySem.W.kitOne K (.type (tyN d)) (.type "str") = some (isSt d) := by
  cases d with
  | none => exact kit_ty (a := "NoneType") (b := "str") (r := false) (by decide +kernel)
  | bool _ => exact kit_ty (a := "bool") (b := "str") (r := false) (by decide +kernel)
  | int _ => exact kit_ty (a := "int") (b := "str") (r := false) (by decide +kernel)
  | str _ => exact kit_ty (a := "str") (b := "str") (r := true) (by decide +kernel)
  | list _ => exact kit_ty (a := "list") (b := "str") (r := false) (by decide +kernel)
  | tuple _ => exact kit_ty (a := "tuple") (b := "str") (r := false) (by decide +kernel)
  | dict _ => exact kit_ty (a := "dict") (b := "str") (r := false) (by decide +kernel)
theorem isi_tup (d : PyData) : PySem.W.kitOne K (.type (tyN d)) (.type "tuple") = some (isTu d) := by
  cases d with
  | none => exact kit_ty (a := "NoneType") (b := "tuple") (r := false) (by decide +kernel)
  | bool _ => exact kit_ty (a := "bool") (b := "tuple") (r := false) (by decide +kernel)
  | int _ => exact kit_ty (a := "int") (b := "tuple") (r := false) (by decide +kernel)
  | str _ => exact kit_ty (a := "str") (b := "tuple") (r := false) (by decide +kernel)
  | list _ => exact kit_ty (a := "list") (b := "tuple") (r := false) (by decide +kernel)
  | tuple _ => exact kit_ty (a := "tuple") (b := "tuple") (r := true) (by decide +kernel)
  | dict _ => exact kit_ty (a := "dict") (b := "tuple") (r := false) (by decide +kernel)
end
theorem or_and_ {t1 t2 t3 t4 : TE} {a1 a2 a3 a4 : Bool} {σ : L2.St} {H : Hp} {Q : VK} (h1 : ∀ Q : VK, Q (.bl a1) H → t1 σ H Q) (h2 : ∀ Q : VK, Q (.bl a2) H → t2 σ H Q) (h3 : ∀ Q : VK, Q (.bl a3) H → t3 σ H Q) (h4 : ∀ Q : VK, Q (.bl a4) H → t4 σ H Q)
    (h : Q (.bl ((a1 && a2) || (a3 && a4))) H) : tOrV (tAndV t1 t2) (tAndV t3 t4) σ H Q := by
  have kA : ∀ R : VK, R (.bl (a1 && a2)) H → tAndV t1 t2 σ H R := fun R r => by
    refine h1 _ ⟨a1, rfl, ?_⟩
    cases a1 with
    | true => rw [if_pos rfl]; exact h2 _ r
    | false => rw [if_neg (by decide)]; exact r
  have kB : ∀ R : VK, R (.bl (a3 && a4)) H → tAndV t3 t4 σ H R := fun R r => by
    refine h3 _ ⟨a3, rfl, ?_⟩
    cases a3 with
    | true => rw [if_pos rfl]; exact h4 _ r
    | false => rw [if_neg (by decide)]; exact r
  refine kA _ ⟨_, rfl, ?_⟩
  cases e : (a1 && a2) with
  | true => rw [if_pos rfl]; rw [e] at h; exact h
  | false => rw [if_neg (by decide)]; rw [e] at h; exact kB _ h
end Ow
namespace Ow
open PySem PySem.Spec PyProof.Rows L2
theorem SchAt.but {K : PySem.W.Frag} {H H' : Hp} {p x : Addr} {n : Nat} {z : Str} {ts : List Tab} (h : SchAt K H x z ts) (hp : PoolAt H p n) (k : Keep p H H') : SchAt K H' x z ts := by
  obtain ⟨_, _, _, e, _⟩ := hp
  exact (h.less e).same ((less_keep k).trans (less_same _ _))
end Ow

/-! Ow.C1: equal data, equal texts; lists taken apart -/
namespace Ow
open PySem PySem.Spec PyProof.Rows L2
theorem loop_bound {n : Int} (h : 0 ≤ n) : 1 ≤ (if (if n < 8 then n else 8) > 1 then (if n < 8 then n else 8) else 1) ∧ (if (if n < 8 then n else 8) > 1 then (if n < 8 then n else 8) else 1) ≤ 8 := by
  by_cases h1 : n < 8
  · rw [if_pos h1]
    by_cases h2 : n > 1
    · rw [if_pos h2]
      omega
    · rw [if_neg h2]
      omega
  · rw [if_neg h1]
    exact ⟨by decide, by decide⟩
def spLaw (K : PySem.W.Frag) : Sp := fun vs H Q _ => ∃ (a : Addr) (ns : List Int), vs = [.ref a] ∧ SqL K H a (ns.map V.int) ∧ ns.length ≤ 63 ∧ ∀ H', Q (.bl true) H'
theorem eqv_str (a b : Str) : PyData.eqv (.str a) (.str b) = true ↔ a = b := by
  have e : PyData.eqv (.str a) (.str b) = (a == b) := by simp only [PyData.eqv]
  rw [e, beq_iff_eq]
theorem eqv_tup (a b : List PyData) : PyData.eqv (.tuple a) (.tuple b) = PyData.eqvAll a b := by simp only [PyData.eqv]
theorem eqv_lst (a b : List PyData) : PyData.eqv (.list a) (.list b) = PyData.eqvAll a b := by simp only [PyData.eqv]
theorem eqvAll_cons (a b : PyData) (l m : List PyData) : PyData.eqvAll (a :: l) (b :: m) = (PyData.eqv a b && PyData.eqvAll l m) := by
  rw [PyData.eqvAll.eq_2]
theorem eqvAll_nn : PyData.eqvAll [] [] = true := by simp only [PyData.eqvAll]
theorem eqvAll_nc (b : PyData) (m : List PyData) : PyData.eqvAll [] (b :: m) = false := by simp only [PyData.eqvAll]
theorem eqvAll_cn (b : PyData) (m : List PyData) : PyData.eqvAll (b :: m) [] = false := by simp only [PyData.eqvAll]
theorem eqv_map {α : Type} {f : α → PyData} (h : ∀ a b, PyData.eqv (f a) (f b) = true ↔ a = b) : ∀ l m : List α, PyData.eqvAll (l.map f) (m.map f) = true ↔ l = m
  | [], [] => by simp [eqvAll_nn]
  | [], b :: m => by simp [eqvAll_nc]
  | a :: l, [] => by simp [eqvAll_cn]
  | a :: l, b :: m => by
    rw [List.map_cons, List.map_cons, eqvAll_cons, Bool.and_eq_true, h, eqv_map h l m, List.cons.injEq]
theorem eqv_oD : ∀ a b : Option Str, PyData.eqv (oD a) (oD b) = true ↔ a = b
  | none, none => by simp [oD, PyData.eqv]
  | none, some b => by simp [oD, PyData.eqv]
  | some a, none => by simp [oD, PyData.eqv]
  | some a, some b => by
    show PyData.eqv (.str a) (.str b) = true ↔ _
    rw [eqv_str, Option.some.injEq]
theorem eqv_dCol (a b : Col) : PyData.eqv (dCol a) (dCol b) = true ↔ a = b := by
  obtain ⟨a1, a2, a3, a4⟩ := a
  obtain ⟨b1, b2, b3, b4⟩ := b
  unfold dCol
  rw [eqv_tup, eqvAll_cons, eqvAll_cons, eqvAll_cons, eqvAll_cons, eqvAll_nn]
  simp only [Bool.and_eq_true, eqv_str, eqv_oD, Col.mk.injEq, and_true]
theorem eqv_dTab (a b : Tab) : PyData.eqv (dTab a) (dTab b) = true ↔ a = b := by
  obtain ⟨a1, a2⟩ := a
  obtain ⟨b1, b2⟩ := b
  unfold dTab
  rw [eqv_tup, eqvAll_cons, eqvAll_cons, eqvAll_nn, eqv_lst]
  simp only [Bool.and_eq_true, eqv_str, eqv_map eqv_dCol, Prod.mk.injEq, and_true]
theorem eqv_dTabs (a b : List Tab) : PyData.eqv (dTabs a) (dTabs b) = true ↔ a = b := by
  unfold dTabs
  rw [eqv_lst, eqv_map eqv_dTab]
def txt (ts : List Tab) : Str := Txt.join ("\n" : Str) (linesOf ts)
theorem txt_inj {a b : List Tab} (ha : TabsOk a) (hb : TabsOk b) (h : txt a = txt b) : a = b := by
  have h1 := (text_read ha).2
  have h2 := (text_read hb).2
  unfold txt at h
  rw [h, h2] at h1
  cases h1
  rfl
theorem txt_eqv {a b : List Tab} (ha : TabsOk a) (hb : TabsOk b) : decide (V.str (txt a) = V.str (txt b)) = PyData.eqv (dTabs a) (dTabs b) := by
  rw [Bool.eq_iff_iff, eqv_dTabs, decide_eq_true_iff]
  constructor
  · intro h
    injection h with h
    exact txt_inj ha hb h
  · intro h
    rw [h]
theorem shp_dCol {ns : List Str} {c : Col} (hn : ∀ t ∈ ns, isW t = true) (h : ColOk ns c) : Shp 1 (dCol c) := by
  have low : ∀ z : Str, Low z → PyData.strOk z = true := fun z hz => strOk_low fun x hx => by have := hz x hx; omega
  have k1 : PyData.strOk c.kind = true := by rcases h.k with ⟨e, _⟩ | ⟨e | e, _⟩ <;> rw [e] <;> decide +kernel
  refine .tup fun d hd => ?_
  simp only [List.mem_cons, List.not_mem_nil, or_false] at hd
  rcases hd with rfl | rfl | rfl | rfl
  · exact .str (strOk_word h.w)
  · exact .str k1
  · rcases h.k with ⟨_, t, r, e1, e2, h1, h2⟩ | ⟨_, e1, e2⟩
    · rw [e1]; exact .str (strOk_word (hn t h1))
    · rw [e1]; exact .non
  · rcases h.k with ⟨_, t, r, e1, e2, h1, h2⟩ | ⟨_, e1, e2⟩
    · rw [e2]; exact .str (low _ (low_rul h2))
    · rw [e2]; exact .non
theorem shp_dTabs {ts : List Tab} (h : TabsOk ts) : SeqAt.shaped (dTabs ts) = true := by
  refine (Shp.lst (n := 3) fun d hd => ?_).shaped (by decide)
  obtain ⟨t, ht, rfl⟩ := List.mem_map.mp hd
  refine .tup fun e he => ?_
  simp only [List.mem_cons, List.not_mem_nil, or_false] at he
  rcases he with rfl | rfl
  · exact .str (strOk_word (h.tab t ht).w)
  · refine .lst fun d hd => ?_
    obtain ⟨c, hc, rfl⟩ := List.mem_map.mp hd
    exact shp_dCol h.names ((h.tab t ht).cols c hc)
section
variable {K : PySem.W.Frag} {H : Hp}
theorem DpAll.strs_inv : ∀ {vs : List V} {zs : List Str}, DpAll K H vs (zs.map PyData.str) → vs = zs.map V.str
  | _, [], h => by cases h; rfl
  | _, z :: zs, h => by
    cases h with
    | cons h1 h2 =>
      cases h1
      rw [DpAll.strs_inv h2]
      rfl
theorem DpAll.bls_inv : ∀ {vs : List V} {zs : List Bool}, DpAll K H vs (zs.map PyData.bool) → vs = zs.map V.bl
  | _, [], h => by cases h; rfl
  | _, z :: zs, h => by
    cases h with
    | cons h1 h2 =>
      cases h1
      rw [DpAll.bls_inv h2]
      rfl
theorem DpAll.app_inv : ∀ {ds es : List PyData} {vs : List V}, DpAll K H vs (ds ++ es) → ∃ us ws, vs = us ++ ws ∧ DpAll K H us ds ∧ DpAll K H ws es
  | [], es, vs, h => ⟨[], vs, rfl, .nil, h⟩
  | d :: ds, es, _, h => by
    cases h with
    | cons h1 h2 =>
      obtain ⟨us, ws, rfl, h3, h4⟩ := DpAll.app_inv h2
      exact ⟨_ :: us, ws, rfl, .cons h1 h3, h4⟩
end
theorem fm_some {α β : Type} (f : α → β) (l : List α) : (l.filterMap fun x => some (f x)) = l.map f := by
  induction l with
  | nil => rfl
  | cons a l ih => rw [List.filterMap_cons, ih] <;> rfl
theorem cut_last (ys : List V) (v : V) : cutV (ys ++ [v]) none (some (-1)) = ys := by
  have e : HT.sIx (ys ++ [v]).length (ys ++ [v]).length (some (-1)) = ys.length := by
    show (if (-1 : Int) < 0 then ((-1 : Int) + ((ys ++ [v]).length : Int)).toNat else min (-1 : Int).toNat (ys ++ [v]).length) = ys.length
    rw [if_pos (by decide), List.length_append]
    simp
    omega
  unfold cutV
  rw [e, HT.sIx_none, List.drop_zero, Nat.sub_zero, List.take_append_of_le_length (Nat.le_refl _), List.take_length]
theorem last_of {α : Type} : ∀ {l : List α}, 0 < l.length → ∃ us t, l = us ++ [t]
  | [], h => absurd h (by simp)
  | [a], _ => ⟨[], a, rfl⟩
  | a :: b :: l, _ => by
    obtain ⟨us, t, e⟩ := last_of (l := b :: l) (by simp)
    exact ⟨a :: us, t, by rw [e]; rfl⟩
theorem join_small {ts : List Tab} (ok : TabsOk ts) : ((linesOf ts).map (·.length)).sum + (linesOf ts).length * (("\n" : Str)).length ≤ 16777216 := by
  have h1 := sum_le fun z hz => (line_ok ok z hz).1
  have h2 := lines_len fun t ht => (ok.tab t ht).few
  have h4 : (("\n" : Str)).length = 1 := by decide +kernel
  have h5 := ok.few
  rw [h4]
  omega
/-- one more flag in the last table -/
theorem more_ok {us : List Tab} {t : Tab} {z : Str} (ok : TabsOk (us ++ [t])) (h5 : t.2.length ≤ 5) (z1 : isW z = true) (z2 : z ∉ t.2.map Col.name) (z3 : z ∉ BAR) : TabsOk (us ++ [(t.1, t.2 ++ [(⟨z, ("flag" : Str), none, none⟩ : Col)])]) := by
  have en : (us ++ [(t.1, t.2 ++ [(⟨z, ("flag" : Str), none, none⟩ : Col)])]).map Prod.fst = (us ++ [t]).map Prod.fst := by simp
  refine ⟨by have := ok.few; simpa using this, by simp, by rw [en]; exact ok.nd, fun u hu => ?_⟩
  rw [en]
  rcases List.mem_append.mp hu with hu | hu
  · exact ok.tab u (List.mem_append_left _ hu)
  · rw [List.mem_singleton.mp hu]
    have tok := ok.tab t (by simp)
    refine ⟨tok.w, by simp; omega, ?_, fun c hc => ?_⟩
    · rw [List.map_append]
      refine List.nodup_append.mpr ⟨tok.nd, by simp, fun a ha b hb e => ?_⟩
      have : b = z := by simpa using hb
      subst this
      subst e
      exact z2 ha
    · rcases List.mem_append.mp hc with hc | hc
      · exact tok.cols c hc
      · rw [List.mem_singleton.mp hc]
        exact ⟨z1, z3, .inr ⟨.inr rfl, rfl, rfl⟩⟩
theorem more_ne {us : List Tab} {t : Tab} {c : Col} : us ++ [(t.1, t.2 ++ [c])] ≠ us ++ [t] := by
  intro h
  have h1 := List.append_cancel_left h
  have h2 : (t.1, t.2 ++ [c]) = t := by simpa using h1
  have h3 := congrArg (fun u : Tab => u.2.length) h2
  simp at h3
end Ow
namespace Ow
open PySem PySem.Spec PyProof.Rows L2
theorem less_at {p q : Addr} {H : Hp} {o : HO} (n : q ≠ p) (h : H q = some o) : less p H q = some o := by rw [less_ne n]; exact h
end Ow
/-! Ow.C2: xs + ys of any two lists -/
namespace Ow
open PySem PySem.Spec PyProof.Rows L2
def rCatSq (K : PySem.W.Frag) : R2 := fun x y H Q => ∃ l b xs zs, x = .ref l ∧ y = .ref b ∧ SqL K H l xs ∧ SqL K H b zs ∧ xs.length + zs.length ≤ sizeLine ∧ ∀ p, H p = none → Q (.ref p) (upd H p (.lst (xs ++ zs)))
theorem op_catS {X : Cx} : OpR X (binaryOp .Add) (rCatSq X.K) := by
  intro pins s σ H x y v u Q I rx ry h
  obtain ⟨l, b, xs, zs, rfl, rfl, hH, hB, hz, q⟩ := h
  cases rx
  cases ry
  obtain ⟨its, r, P1, hl⟩ := I.list hH
  obtain ⟨its2, r2, P2, hl2⟩ := I.list hB
  obtain ⟨⟨cls, dd, data, sl⟩, ho, hc, n, hd⟩ := P1.isList
  obtain ⟨⟨cls2, dd2, data2, sl2⟩, ho2, hc2, n2, hd2⟩ := P2.isList
  simp only at hc hd hc2 hd2
  subst hc hd hc2 hd2
  have e : its.toArray ++ its2.toArray = (its ++ its2).toArray := by simp
  have l1 := r.length
  have l2 := r2.length
  refine PySem.concat_meets ⟨_, ho, rfl⟩ ⟨_, ho2, rfl⟩ noFill_list_add seq_list_add PySem.F.slot_list_add PySem.F.entry_list_add (PySem.F.args_list_add_2 _ _) (list_addW l b its.toArray its2.toArray n n2 dd dd2 sl sl2 (by rw [List.size_toArray, List.size_toArray]; omega)) ⟨ho, ho2, ?_⟩
  rw [e]
  exact ⟨.ref _, _, I.lnew (t' := s.toks) (r.append r2) (by rw [List.length_append]; omega), rfl, q _ I.fresh⟩
theorem op_catSK {X : Cx} {K : PySem.W.Frag} (hK : X.K = K := by rfl) : OpR X (binaryOp .Add) (rCatSq K) := by subst hK; exact op_catS
end Ow
/-! Ow.C3: comprehensions by a relation that stands whatever the heap -/
namespace Ow
open PySem PySem.Spec PyProof.Rows L2
section
variable {K : PySem.W.Frag} {α β : Type} {R0 : V → α → Prop} {R : V → β → Prop} {H1 : Hp} {D : Addr} {l : List α} {g : α → Option β} {i : Nat} {H : Hp}
structure LcR (R : V → β → Prop) (H1 : Hp) (D : Addr) (l : List α) (g : α → Option β) (i : Nat) (H : Hp) : Prop where
  same : Same H1 H
  ex : ∃ ys, H D = some (.lst ys) ∧ Paired R ys ((l.take i).filterMap g) ∧ ys.length ≤ i
theorem Paired.app {α β : Type} {R : α → β → Prop} : ∀ {a c : List α} {b d : List β}, Paired R a b → Paired R c d → Paired R (a ++ c) (b ++ d)
  | _, _, _, _, .nil, h => h
  | _, _, _, _, .cons r t, h => .cons r (Paired.app t h)
theorem Paired.get {α β : Type} {R : α → β → Prop} : ∀ {a : List α} {b : List β} {i : Nat} {x : α}, Paired R a b → a[i]? = some x → ∃ y, b[i]? = some y ∧ R x y
  | _, _, i, x, .nil, e => by simp at e
  | _, _, 0, x, .cons r t, e => ⟨_, rfl, by simpa using (show x = _ by simpa using e.symm) ▸ r⟩
  | _, _, i + 1, x, .cons r t, e => by
    obtain ⟨y, h1, h2⟩ := Paired.get (i := i) (x := x) t (by simpa using e)
    exact ⟨y, by simpa using h1, h2⟩
theorem LcR.step {x : α} {H4 : Hp} {y : V} {d : β} (P : LcR R H1 D l g i H) (hl : l.length ≤ 100000) (s : Same H H4) (hx : l[i]? = some x) (hg : g x = some d) (hd : R y d) (hD : H1 D = none) :
    ∃ acc, H4 D = some (.lst acc) ∧ acc.length < sizeLine ∧ LcR R H1 D l g (i + 1) (upd H4 D (.lst (acc ++ [y]))) := by
  obtain ⟨s1, ys, h1, h2, h3⟩ := P
  have hi : i < l.length := (List.getElem?_eq_some_iff.mp hx).1
  refine ⟨ys, s _ _ h1, by rw [sizeLine_eq]; omega, ?_, _, upd_same, ?_, by rw [List.length_append]; simp; omega⟩
  · exact fun b o q => by rw [upd_ne (ne_of_none q hD)]; exact s _ _ (s1 _ _ q)
  · rw [List.take_add_one, hx, List.filterMap_append]
    refine Paired.app h2 ?_
    have e2 : List.filterMap g (some x).toList = [d] := by simp [hg]
    rw [e2]
    exact .cons hd .nil
theorem LcR.skip {x : α} {H4 : Hp} (P : LcR R H1 D l g i H) (s : Same H H4) (hx : l[i]? = some x) (hg : g x = none) : LcR R H1 D l g (i + 1) H4 := by
  obtain ⟨s1, ys, h1, h2, h3⟩ := P
  refine ⟨s1.trans s, ys, s _ _ h1, ?_, by omega⟩
  rw [List.take_add_one, hx, List.filterMap_append]
  have e2 : List.filterMap g (some x).toList = [] := by simp [hg]
  rw [e2, List.append_nil]
  exact h2
theorem lc_rel {a : Addr} {xs : List V} {tg : TG} {tt : TT} {te : TE} {vs : List Nat} {σ : L2.St} {Qd : Hp → Prop} (R : V → β → Prop) (g : α → Option β) (hD : H1 D = none) (hS : SqL K H1 a xs) (hx : Paired R0 xs l)
    (hs : ∀ i v x H, xs[i]? = some v → l[i]? = some x → R0 v x → LcR R H1 D l g i H → tg v (wipe σ vs) H fun σ2 H2 => wipe σ2 vs = wipe σ vs ∧ tt σ2 H2 fun b H3 =>
      if b = true then te σ2 H3 fun y H4 => ∃ acc, H4 D = some (.lst acc) ∧ acc.length < sizeLine ∧ LcR R H1 D l g (i + 1) (upd H4 D (.lst (acc ++ [y]))) else LcR R H1 D l g (i + 1) H3)
    (hd : ∀ H ys, Same H1 H → H D = some (.lst ys) → Paired R ys (l.filterMap g) → Qd H) :
    ∃ W : Nat → Nat → Hp → Prop, (∃ m, W 0 m (upd H1 D (.lst []))) ∧ ∀ i m H, W i m H →
      ((Itl K a).stop i H ∧ Qd H) ∨ ((Itl K a).go i H ∧ ∃ Nx : Hp → Prop, (∀ H', Nx H' → ∃ m', m' < m ∧ W (i + 1) m' H') ∧ ∀ x H', (Itl K a).yld i H x H' → tg x (wipe σ vs) H' fun σ2 H2 => wipe σ2 vs = wipe σ vs ∧ tt σ2 H2 fun b H3 =>
        if b = true then te σ2 H3 fun y H4 => ∃ acc, H4 D = some (.lst acc) ∧ acc.length < sizeLine ∧ Nx (upd H4 D (.lst (acc ++ [y]))) else Nx H3) := by
  have hxl := Paired.length hx
  refine lc_list (K := K) (a := a) (xs := xs) (LcR R H1 D l g) ⟨same_upd hD, [], upd_same, by simpa using Paired.nil, Nat.le_refl _⟩ (fun i H _ P => P.same.seq hS) (fun i v H hv P => ?_) (fun H P => ?_)
  · obtain ⟨x, h1, h2⟩ := Paired.get hx hv
    exact hs i v x H hv h1 h2 P
  · obtain ⟨s1, ys, h1, h2, h3⟩ := P
    rw [hxl, List.take_length] at h2
    exact hd H ys s1 h1 h2
end
section
variable {K : PySem.W.Frag} {α : Type} {f : α → PyData} {G : Hp}
theorem paired_of : ∀ {xs : List V} {l : List α}, DpAll K G xs (l.map f) → Paired (fun v x => Dp K G v (f x)) xs l
  | _, [], h => by cases h; exact .nil
  | _, a :: l, h => by
    cases h with
    | cons h1 h2 => exact .cons h1 (paired_of h2)
theorem of_paired : ∀ {xs : List V} {l : List α}, Paired (fun v x => Dp K G v (f x)) xs l → DpAll K G xs (l.map f)
  | _, [], h => by cases h; exact .nil
  | _, a :: l, h => by
    cases h with
    | cons h1 h2 => exact .cons h1 (of_paired h2)
theorem of_paired0 : ∀ {xs : List V} {l : List PyData}, Paired (fun v x => Dp K G v x) xs l → DpAll K G xs l
  | _, [], h => by cases h; exact .nil
  | _, a :: l, h => by
    cases h with
    | cons h1 h2 => exact .cons h1 (of_paired0 h2)
theorem strs_of {zs : List Str} : ∀ {xs : List V}, Paired (fun v z => v = V.str z) xs zs → xs = zs.map V.str := by
  induction zs with
  | nil => intro xs h; cases h; rfl
  | cons z zs ih =>
    intro xs h
    cases h with
    | cons h1 h2 => rw [h1, ih h2]; rfl
end
end Ow
/-! Ow.C4: readings, one step; an expression with branches read once -/
namespace Ow
open PySem PySem.Spec PyProof.Rows L2
theorem cons_ {te : TE} {tr : TA} {σ : L2.St} {H : Hp} {Q : List V → Hp → Prop} (h : te σ H fun x H1 => tr σ H1 fun xs H2 => Q (x :: xs) H2) : tCons te tr σ H Q := h
theorem once_ {te : TE} {σ : L2.St} {H : Hp} {Q : VK} {Good : V → Hp → Prop} (h : ∀ Q : VK, (∀ v H', Good v H' → Q v H') → te σ H Q) (hk : ∀ v H', Good v H' → Q v H') : te σ H Q := h Q hk
theorem _root_.L2.Dp.keep {K : PySem.W.Frag} {p : Addr} {H H' : Hp} {v : V} {d : PyData} (h : Dp K (less p H) v d) (k : Keep p H H') : Dp K (less p H') v d := Dp.same (less_keep k) _ _ h
theorem _root_.L2.Dp.full {K : PySem.W.Frag} {p : Addr} {H : Hp} {v : V} {d : PyData} (h : Dp K (less p H) v d) : Dp K H v d := Dp.same (less_same _ _) _ _ h
end Ow
namespace Ow
open PySem PySem.Spec PyProof.Rows L2
/-- a statement with branches read once -/
theorem seq_once {s1 u : TS} {D : Ends} {σ : L2.St} {H : Hp} (Good : Hp → Prop) (h : ∀ N : L2.St → Hp → Prop, (∀ H', Good H' → N σ H') → s1 { D with nx := N } σ H) (hk : ∀ H', Good H' → u D σ H') : tSeq s1 u D σ H := h (u D) hk
theorem eqv_same {d : PyData} (h : SeqAt.shaped d = true) : PyData.eqv d d = true := SeqAt.eqv_refl _ (SeqAt.canLay_of_shaped h)
end Ow
namespace Ow
open PySem PySem.Spec PyProof.Rows L2
theorem nxt_ {D : Ends} {σ : L2.St} {H : Hp} (h : D.nx σ H) : tNext D σ H := h
end Ow

/-! Ow.T1: texts: lengths of what is joined and split; signs that are not there; slices of lists -/
namespace Ow
open PySem PySem.Spec PyProof.Rows L2 TL
/-- the signs of a list of words, one more for each -/
def wt (l : List Str) : Nat := (l.map (·.length)).sum + l.length
theorem wt_nil : wt [] = 0 := rfl
theorem wt_cons (z : Str) (l : List Str) : wt (z :: l) = z.length + 1 + wt l := by
  unfold wt
  rw [List.map_cons, List.sum_cons, List.length_cons]
  omega
theorem wt_app (l m : List Str) : wt (l ++ m) = wt l + wt m := by
  unfold wt
  rw [List.map_append, List.sum_append, List.length_append]
  omega
theorem wt_cut (l : List Str) (i : Nat) : wt (l.take i) + wt (l.drop i) = wt l := by
  rw [← wt_app, List.take_append_drop]
theorem wt_drop (l : List Str) (i : Nat) : wt (l.drop i) ≤ wt l := by
  have := wt_cut l i
  omega
theorem wt_drop1 (l : List Str) (i : Nat) : wt (l.drop (i + 1)) ≤ wt (l.drop i) := by
  rw [← List.drop_drop]
  exact wt_drop _ _
theorem join_wt {y : Str} (hy : y.length = 1) : ∀ {l : List Str}, l ≠ [] → (Str.join y l).length + 1 = wt l
  | [], h => absurd rfl h
  | [x], _ => by
    show x.length + 1 = wt [x]
    rw [wt_cons, wt_nil]
  | x :: z :: r, _ => by
    have ih := join_wt hy (l := z :: r) (by simp)
    show (x ++ y ++ Str.join y (z :: r)).length + 1 = _
    rw [len_app, len_app, wt_cons, ← ih]
    omega
theorem join_le {y : Str} (hy : y.length = 1) (l : List Str) : (Txt.join y l).length ≤ wt l := by
  rw [TL.join_eq]
  cases l with
  | nil => show (Str.empty).length ≤ 0; decide
  | cons z l =>
    have := join_wt hy (l := z :: l) (by simp)
    omega
theorem split_wt {x y : Str} (hy : y.length = 1) (hs : Txt.split x y ≠ []) : wt (Txt.split x y) = x.length + 1 := by
  rw [← join_wt hy hs, StrLaws.join_split]
theorem mem_joinL {S : List Nat} {c : Nat} : ∀ {ps : List (List Nat)}, c ∈ joinL S ps → c ∈ S ∨ ∃ p ∈ ps, c ∈ p
  | [], h => nomatch h
  | [q], h => .inr ⟨q, by simp, h⟩
  | q :: r :: t, h => by
    have h : c ∈ q ++ (S ++ joinL S (r :: t)) := h
    rcases List.mem_append.mp h with h | h
    · exact .inr ⟨q, by simp, h⟩
    · rcases List.mem_append.mp h with h | h
      · exact .inl h
      · rcases mem_joinL h with h | ⟨p, hp, hc⟩
        · exact .inl h
        · exact .inr ⟨p, List.mem_cons_of_mem _ hp, hc⟩
theorem joinL_mem {S : List Nat} {c : Nat} : ∀ {ps : List (List Nat)} {p : List Nat}, p ∈ ps → c ∈ p → c ∈ joinL S ps
  | [], _, h, _ => nomatch h
  | [q], p, h, hc => by
    rw [List.mem_singleton.mp h] at hc
    exact hc
  | q :: r :: t, p, h, hc => by
    show c ∈ q ++ (S ++ joinL S (r :: t))
    rcases List.mem_cons.mp h with rfl | h
    · exact List.mem_append_left _ hc
    · exact List.mem_append_right _ (List.mem_append_right _ (joinL_mem h hc))
/-- a short text without a line feed -/
def LnS (M : Nat) (z : Str) : Prop := z.length ≤ M ∧ 10 ∉ tl z
theorem LnS.mono {M N : Nat} {z : Str} (h : LnS M z) (l : M ≤ N) : LnS N z := ⟨Nat.le_trans h.1 l, h.2⟩
theorem split_free {x y z : Str} (h : z ∈ Txt.split x y) {c : Nat} (hc : c ∉ tl x) : c ∉ tl z := fun q => hc (by
  rw [← StrLaws.join_split x y, tl_join]
  exact joinL_mem (List.mem_map_of_mem h) q)
theorem join_free {y : Str} {l : List Str} {c : Nat} (hy : c ∉ tl y) (h : ∀ z ∈ l, c ∉ tl z) : c ∉ tl (Txt.join y l) := fun q => by
  rw [TL.join_eq, tl_join] at q
  rcases mem_joinL q with q | ⟨p, hp, hc⟩
  · exact hy q
  · obtain ⟨z, hz, rfl⟩ := List.mem_map.mp hp
    exact h z hz hc
theorem ws_ln {M : Nat} {line z : Str} (h : LnS M line) (hz : z ∈ wsOf line) : LnS M z := ⟨Nat.le_trans (ws_len hz) h.1, split_free hz h.2⟩
theorem sp1 : ((" " : Str)).length = 1 := by decide +kernel
theorem nl1 : (("\n" : Str)).length = 1 := by decide +kernel
theorem sp_free : 10 ∉ tl (" " : Str) := by decide +kernel
theorem ws_wt (line : Str) : wt (wsOf line) = line.length + 1 := split_wt sp1 (ws_ne line)
/-- words joined by blanks -/
theorem join_ln {M : Nat} {l : List Str} (h : ∀ z ∈ l, 10 ∉ tl z) (hw : wt l ≤ M) : LnS M (Txt.join (" " : Str) l) := ⟨Nat.le_trans (join_le sp1 l) hw, join_free sp_free h⟩
theorem app_ln {M N : Nat} {x y : Str} (hx : LnS M x) (hy : LnS N y) : LnS (M + N) (x ++ y) := ⟨by rw [len_app]; have := hx.1; have := hy.1; omega, fun q => by
  rw [tl_append] at q
  rcases List.mem_append.mp q with q | q
  · exact hx.2 q
  · exact hy.2 q⟩
theorem word_ln {z : Str} (h : isW z = true) : LnS 8 z := ⟨(isW_len h).2, fun q => by have := isW_low h 10 q; omega⟩
theorem up_letT {c : Nat} (h : 97 ≤ c ∧ c ≤ 122) : Unicode.upperOf c = [c - 32] := by
  have q : ∀ i : Fin 26, Unicode.upperOf (97 + i.val) = [97 + i.val - 32] := by decide +kernel
  have := q ⟨c - 97, by omega⟩
  have e : 97 + (c - 97) = c := by omega
  simp only [e] at this
  exact this
theorem upper_memT {z : Str} {c : Nat} (h : c ∈ tl (Txt.upper z)) : ∃ d ∈ tl z, c ∈ Unicode.upperOf d := by
  have h : c ∈ ((z.cps.mapIdx fun i c => (Unicode.upperOf c).toArray).flatten).toList := h
  rw [Array.mem_toList_iff, Array.mem_flatten] at h
  obtain ⟨a, ha, hc⟩ := h
  obtain ⟨i, hi, rfl⟩ := Array.mem_iff_getElem.mp ha
  rw [Array.getElem_mapIdx] at hc
  refine ⟨z.cps[i]'(by simpa using hi), ?_, by simpa using hc⟩
  show _ ∈ z.cps.toList
  rw [Array.mem_toList_iff]
  exact Array.getElem_mem _
theorem upper_ln {z : Str} (h : isW z = true) : LnS 24 (Txt.upper z) := by
  refine ⟨by have := PyProof.Rows.len_upper z; have := (isW_len h).2; omega, fun q => ?_⟩
  obtain ⟨d, hd, hc⟩ := upper_memT q
  have hl := isW_low h d hd
  rw [up_letT hl] at hc
  have := List.mem_singleton.mp hc
  omega
/-! ### slices -/
theorem cut_to (xs : List V) (k : Nat) : cutV xs none (some (k : Int)) = xs.take k := by
  unfold cutV
  rw [HT.sIx_none, HT.sIx_nat, List.drop_zero, Nat.sub_zero]
  by_cases h : k ≤ xs.length
  · rw [Nat.min_eq_left h]
  · rw [Nat.min_eq_right (by omega), List.take_length, List.take_of_length_le (by omega)]
theorem cut_from (xs : List V) (k : Nat) : cutV xs (some (k : Int)) none = xs.drop k := by
  unfold cutV
  rw [HT.sIx_none, HT.sIx_nat]
  by_cases h : k ≤ xs.length
  · rw [Nat.min_eq_left h, List.take_of_length_le (by rw [List.length_drop]; omega)]
  · rw [Nat.min_eq_right (by omega), List.drop_length, List.drop_of_length_le (by omega), List.take_nil]
end Ow
namespace Ow
open PySem PySem.Spec PyProof.Rows L2 TL
section
variable {X : Cx} {K : PySem.W.Frag}
theorem call_tuple_ofK (hK : X.K = K := by rfl) : CallR X (.type "tuple") (fun xs H Q => ∃ p ys, xs = [.ref p] ∧ ((SqL K H p ys ∧ ∀ l, H l = none → Q (.ref l) (upd H l (.tup ys))) ∨ (SqT K H p ys ∧ Q (.ref p) H))) := by subst hK; exact call_tuple_of
end
theorem iteNN {c A B : Prop} [Decidable c] (hc : ¬ c) (h : A) : if (!decide c) = true then A else B := by
  rw [decide_eq_false hc]
  exact iteT h
theorem iteDF {c A B : Prop} [Decidable c] (hc : ¬ c) (h : B) : if decide c = true then A else B := by
  rw [decide_eq_false hc]
  exact iteF h
theorem iteDT {c A B : Prop} [Decidable c] (hc : c) (h : A) : if decide c = true then A else B := by
  rw [decide_eq_true hc]
  exact iteT h
/-- what the law's own look at a column says -/
def lawCol (ws ns tk : List Str) : Bool := match colOf ws ns with
  | none => false
  | some c => !decide (c.name ∈ tk) && !decide (tk.length = 6)
theorem colOf_name {ws ns : List Str} {c : Col} (h : colOf ws ns = some c) : c.name = wd ws 1 := by
  unfold colOf at h
  split at h
  · cases h
  · split at h
    · cases h; rfl
    · split at h
      · cases h; rfl
      · cases h
end Ow

/-! Ow.1: an exception class of the text, called with keywords too -/
namespace PySem
namespace OwE
open Builtin Builtin.ObjectAttr HandSPX
section
variable {M : Model} {A : Around} {E : Value → Shared → Prop} {h : Heap} {g : Array GenState} {d : Drawn} {t : Nat} {os : OsState}
variable {nm q : Str} {C N : Addr} {bs bm bmB : List Value} {hdct : Bool} {sn : List Str} {sub : List Value} {ab : Bool} {col : Option Bool} {dd : Option Addr} {k0 k1 k2 k3 k5 : Option Value} {B newId initId : String}
theorem newK_check (F : ExcBaseFacts B newId initId bmB) (hT : ∀ X : String, bm.contains (.type X) = bmB.contains (.type X)) {rest : List Value} {kw : List (Str × Value)} {Q : Unit → Shared → Prop}
    (hC : h.get? C = some (excClassObj nm q C N bs bm hdct sn sub ab col dd k0 k1 k2 k3 k5 newId)) (hq : Q () ⟨h, g, d, t, os⟩) : wpAny M A (checkBuiltinCall newId ⟨.ref C :: rest, kw⟩) Q E ⟨h, g, d, t, os⟩ := by
  have hcont : (Value.ref C :: bm).contains (.type B) = true := by rw [List.contains_cons, hT, F.hasB, Bool.or_true]
  have hstar := F.noStar
  simp only [checkBuiltinCall, F.newKind, F.newSplit, F.newRow]
  repeat (first | refine wpAny_loadPart_at hC ?_ | (refine wpAny_isSubtype_exc hC ?_; rw [hcont]) | refine wpAny_staticBase_exc hC ?_ | refine wpAny_madeBy_exc hC ?_ | simp only [bne_self_eq_false, Bool.false_eq_true, if_false] | wp_step)
  exact hq
end
section
variable {prog : Program} {w : World} {A : Around} {E : Value → Shared → Prop} {R : Result → Shared → Prop} {h : Heap} {g : Array GenState} {d : Drawn} {t : Nat} {os : OsState}
variable {nm q : Str} {C N : Addr} {bs bm bmB : List Value} {hdct : Bool} {sn : List Str} {sub : List Value} {ab : Bool} {col : Option Bool} {dd : Option Addr} {k0 k1 k2 k3 k5 : Option Value} {B newId initId : String}
theorem newK (F : ExcBaseFacts B newId initId bmB) (hT : ∀ X : String, bm.contains (.type X) = bmB.contains (.type X)) {rest : List Value} {kw : List (Str × Value)}
    (hC : h.get? C = some (excClassObj nm q C N bs bm hdct sn sub ab col dd k0 k1 k2 k3 k5 newId))
    (hq : R (.ok (.ret (.ref (h.objs.size + 1)))) ⟨(h.push { cls := .type "tuple", data := .seq rest.toArray }).push
      { cls := .ref C, data := .fields #[.ref h.objs.size, .none, .none, .none, .bool false, .none] }, g, d, t, os⟩) (hrest : rest.length ≤ sizeLine) :
    codeAny (model prog w) A (.builtin newId ⟨.ref C :: rest, kw⟩) R ⟨h, g, d, t, os⟩ := by
  have hends := F.ends
  have hcB : (Value.ref C :: bm).contains (.type B) = true := by rw [List.contains_cons, hT, F.hasB, Bool.or_true]
  have hcA : (Value.ref C :: bm).contains (.type "AttributeError") = false := by rw [List.contains_cons, hT, F.noAttr]; rfl
  have hcN : (Value.ref C :: bm).contains (.type "NameError") = false := by rw [List.contains_cons, hT, F.noName]; rfl
  refine codeAny_builtinAt F.entry ?_
  unfold Builtin.«BaseException.__new__»
  refine wpAt_bind ?_
  show wpAt _ _ _ (stack >>= _) _ _ _
  refine wpAt_bind (wpAt_stack fun p below => wpAt_of_wpAny ?_)
  wp_walk
  refine wpAt_of_wpAny ?_
  rw [F.owner]
  repeat (first | with_reducible refine wpAny_madeHere_exc F.canon hC ?_ | with_reducible refine wpAny_loadPart_at hC ?_ | (with_reducible refine wpAny_isSubtype_exc hC ?_; first | rw [hcB] | rw [hcA] | rw [hcN]) | wp_step)
  show R _ _
  rw [Heap.size_push]
  exact hq
theorem typeCallK (F : ExcBaseFacts B newId initId bmB) (hT : ∀ X : String, bm.contains (.type X) = bmB.contains (.type X)) {rest : List Value} {kw : List (Str × Value)} {fI : Addr} {Q : Fin → Shared → Prop}
    (hC : h.get? C = some (excClassObj nm q C N bs bm hdct sn sub ab col dd k0 k1 k2 k3 k5 newId))
    (hi : W.Looks (model prog w) h (typeLookup (.ref C) "__init__") (some (.ref fI))) (hb : ∀ self, W.Looks (model prog w) h (bindSpecial (.ref fI) self) (.ref fI, [self])) (hrest : rest.length ≤ sizeLine)
    (hq : codeAny (model prog w) A (.call (.ref fI) ⟨.ref (h.objs.size + 1) :: rest, kw⟩)
      (fun r s' => match r with | .ok (.ret v) => v = .none ∧ Q (.done (.ret (.ref (h.objs.size + 1)))) s' | .ok _ => False | .error e => E e s')
      ⟨(h.push (W.kdv_tup rest)).push (excO C h.objs.size), g, d, t, os⟩) :
    wpAny (model prog w) A (Builtin.«type.__call__» ⟨.ref C :: rest, kw⟩) Q E ⟨h, g, d, t, os⟩ := by
  repeat (first | with_reducible refine wpAny_loadPart_at hC ?_ | with_reducible refine wpAny_madeBy_exc hC ?_ | wp_step)
  refine codeAny_call_builtin_code (Code.quiet_builtin _ F.quiet) (newK_check F hT hC ?_)
  refine newK F hT hC ?_ hrest
  show wpAny _ _ _ _ _ _
  have k : ∀ b o, h.get? b = some o → ((h.push (W.kdv_tup rest)).push (excO C h.objs.size)).get? b = some o := fun b o e => Heap.get?_push_of_some _ (Heap.get?_push_of_some _ e)
  have hC₁ := k _ _ hC
  have hget : ((h.push (W.kdv_tup rest)).push (excO C h.objs.size)).get? (h.objs.size + 1) = some (excO C h.objs.size) := by heap_get
  have hcC : (Value.ref C :: bm).contains (.ref C) = true := by simp
  have i1 := hi.keeps k
  have b1 := (hb (.ref (h.objs.size + 1))).keeps k
  unfold isInstance
  repeat (first | with_reducible refine wpAny_loadPart_at hget ?_ | (with_reducible refine wpAny_isSubtype_exc hC₁ ?_; rw [hcC]) | wp_step)
  show wpAny _ _ (typeLookup (.ref C) _) _ _ _
  refine i1.at ?_
  refine wpAny_holding (wpAny_bind (b1.at ?_))
  refine wpAny_bind (wpAny_call (codeAny_mono hq fun r s' z => ?_))
  rcases r with e | (v | _ | _ | _) <;> first | exact z | exact z.elim | skip
  obtain ⟨rfl, z⟩ := z
  first
    | exact wpAny_pure (wpAny_pure z)
    | (wp_walk; exact z)
theorem callK (F : ExcBaseFacts B newId initId bmB) (hT : ∀ X : String, bm.contains (.type X) = bmB.contains (.type X)) {rest : List Value} {kw : List (Str × Value)} {fI : Addr}
    (hC : h.get? C = some (excClassObj nm q C N bs bm hdct sn sub ab col dd k0 k1 k2 k3 k5 newId))
    (hi : W.Looks (model prog w) h (typeLookup (.ref C) "__init__") (some (.ref fI))) (hb : ∀ self, W.Looks (model prog w) h (bindSpecial (.ref fI) self) (.ref fI, [self])) (hrest : rest.length ≤ sizeLine)
    (hq : codeAny (model prog w) (A.under (.builtin "type.__call__" ⟨.ref C :: rest, kw⟩)) (.call (.ref fI) ⟨.ref (h.objs.size + 1) :: rest, kw⟩) (W.InitBack (h.objs.size + 1) R)
      ⟨(h.push (W.kdv_tup rest)).push (excO C h.objs.size), g, d, t, os⟩) :
    codeAny (model prog w) A (.call (.ref C) ⟨rest, kw⟩) R ⟨h, g, d, t, os⟩ := by
  have f1 := tc_lookup
  have f2 := tc_bind (.ref C)
  have hTy : (⟨h, g, d, t, os⟩ : Shared).TypeIs (.ref C) "type" := ⟨_, hC, rfl⟩
  refine codeAny_of_tree ?_
  show wpAny _ _ (callAny (.ref C) _) _ _ _
  repeat (any_goals (first | assumption | with_reducible refine wpAny_loadPart_at hC ?_ | wp_step))
  refine ⟨rfl, ?_⟩
  refine codeAny_call_builtin_at (Code.quiet_builtin _ (by decide +kernel)) entry_typeCall (wpAny_check_type_call_sub hC (typeCallK F hT hC hi hb hrest ?_))
  refine codeAny_mono hq fun r s' z => ?_
  rcases r with e | (v | _ | _ | _) <;> exact z
end
end OwE
end PySem

/-! Ow.2: super().__init__(text) in an exception class over ValueError -/
namespace PySem
namespace OwE
abbrev bwV (x : Addr) : Obj := { cls := .type "method-wrapper", dict := none, data := .fields #[.builtin "ValueError.__init__", .ref x], slots := #[] }
theorem type_vi : typeOf (.builtin "ValueError.__init__") = pure (.type "wrapper_descriptor") := by show builtinType _ = _; rw [builtinType_eq_fast]; kernel_rfl
theorem nac_vi : (kfb_private% "nameAndClass") (Value.builtin "ValueError.__init__") = (pure (("__init__" : Str), Value.type "ValueError") : Sem (Str × Value)) := by kernel_rfl
section
open PySem.W
variable {prog : Program} {w : World} {M : Model} {A : Around} {E : Value → Shared → Prop} {h : Heap} {g : Array GenState} {d : Drawn} {t : Nat} {os : OsState}
theorem wd_run {x C : Addr} {P : Fin → Shared → Prop} (hin : W.Looks M h (isInstance (.ref x) (.type "ValueError")) true) (hq : P (.done (.ret (.ref h.objs.size))) ⟨h.push (bwV x), g, d, t, os⟩) :
    wpAny M A (Builtin.«wrapper_descriptor.__get__» ⟨[.builtin "ValueError.__init__", .ref x, .ref C], []⟩) P E ⟨h, g, d, t, os⟩ := by
  unfold Builtin.«wrapper_descriptor.__get__»
  refine wpAny_bind (wpAny_of_eq (a := (.builtin "ValueError.__init__", some (.ref x), some (.ref C))) (by first | rfl | kernel_rfl) ?_)
  show wpAny M A ((kfb_private% "checkInstance") (.builtin "ValueError.__init__") (.ref x) >>= fun _ => newFields "method-wrapper" [.builtin "ValueError.__init__", .ref x] >>= fun r => ret r) P E _
  refine wpAny_bind ?_
  show wpAny M A ((kfb_private% "nameAndClass") (.builtin "ValueError.__init__") >>= _) _ E _
  refine wpAny_bind (wpAny_of_eq nac_vi ?_)
  show wpAny M A (isInstance (.ref x) (.type "ValueError") >>= _) _ E _
  refine wpAny_bind (hin.at ?_)
  refine KFB.if_not rfl ?_
  refine wpAny_pure ?_
  exact wpAny_bind (wpAny_newObj_type (wpAny_pure hq))
theorem sup_ga {so D x C : Addr} {l₀ l : List Value} {K : Frag} {name : Str} {tk : Tok} {Q : Fin → Shared → Prop}
    (hso : h.get? so = some { cls := .type "super", dict := none, data := .fields #[.ref D, .ref x, .ref C], slots := #[] }) (hno : W.Looks (model prog w) h (opaqueClassAbove (.ref C)) none)
    (hC : W.Looks (model prog w) h (mroOf (.ref C)) l₀) (hl : (l₀.dropWhile (· != .ref D)).drop 1 = l) (X : K.In h)
    (hf : alongIn K name l = some (some (.builtin "ValueError.__init__"))) (hxC : x ≠ C) (hn : (name == ("__class__" : Str)) = false) (hin : W.Looks (model prog w) h (isInstance (.ref x) (.type "ValueError")) true)
    (hq : Q (.done (.ret (.ref h.objs.size))) ⟨h.push (bwV x), g, d, t, os⟩) :
    wpAny (model prog w) A (Builtin.«super.__getattribute__» ⟨[.ref so, .str name tk], []⟩) Q E ⟨h, g, d, t, os⟩ := by
  have hlk := ESX.slot_wd.lookup
  have hne : (Value.ref x == Value.ref C) = false := by simp [hxC]
  have hTf := type_vi
  have hTi : Shared.TypeIs ⟨h, g, d, t, os⟩ (.builtin "ValueError.__init__") "wrapper_descriptor" := type_vi
  have hdt : ({ cls := .type "super", dict := none, data := .fields #[.ref D, .ref x, .ref C], slots := #[] } : Obj).data = .fields #[.ref D, .ref x, .ref C] := rfl
  have f0 : (#[.ref D, .ref x, .ref C] : Array Value)[0]? = some (.ref D) := rfl
  have f1 : (#[.ref D, .ref x, .ref C] : Array Value)[1]? = some (.ref x) := rfl
  have f2 : (#[.ref D, .ref x, .ref C] : Array Value)[2]? = some (.ref C) := rfl
  unfold Builtin.«super.__getattribute__»
  repeat (first
    | (with_reducible refine wpAny_field hso hdt f0 ?_) | (with_reducible refine wpAny_field hso hdt f1 ?_) | (with_reducible refine wpAny_field hso hdt f2 ?_)
    | (with_reducible refine ks_wpAny_notOpaque hno ?_)
    | (with_reducible refine Looks.at hC ?_; rw [hl])
    | (refine ks_forIn_along X (fun _ _ => rfl) rfl ?_ hf)
    | (with_reducible refine wpAny_call_entry ESX.slot_wd hTi ESX.entry_wd ?_ (ESX.args_wd _ _ _))
    | (with_reducible refine wd_run hin ?_)
    | (with_reducible refine ⟨_, rfl, ?_⟩)
    | (simp only [hn, hne, Bool.or_false, Bool.false_eq_true, if_false])
    | wp_step
    | dsimp only)
  all_goals exact hq
theorem sup_method {so D x C : Addr} {l₀ l : List Value} {K : Frag} {name : Str} {pl : Sem Bool} {Q : Value × List Value → Shared → Prop}
    (hso : h.get? so = some { cls := .type "super", dict := none, data := .fields #[.ref D, .ref x, .ref C], slots := #[] }) (hno : W.Looks (model prog w) h (opaqueClassAbove (.ref C)) none)
    (hC : W.Looks (model prog w) h (mroOf (.ref C)) l₀) (hl : (l₀.dropWhile (· != .ref D)).drop 1 = l) (X : K.In h)
    (hf : alongIn K name l = some (some (.builtin "ValueError.__init__"))) (hxC : x ≠ C) (hn : (name == ("__class__" : Str)) = false) (hin : W.Looks (model prog w) h (isInstance (.ref x) (.type "ValueError")) true)
    (hq : Q (.ref h.objs.size, []) ⟨h.push (bwV x), g, d, t + 1, os⟩) :
    wpAny (model prog w) A (getMethod (.ref so) name pl) Q E ⟨h, g, d, t, os⟩ := by
  have hlk := F.ks_slot_super_ga.lookup
  have hcan := F.ks_canon_super_ga
  have hT : ∀ t', (⟨h, g, d, t', os⟩ : Shared).TypeIs (.ref so) "super" := fun _ => ⟨_, hso, rfl⟩
  unfold getMethod
  refine wpAny_bind (wpAny_specialOf (hT _) hlk ?_)
  show wpAny _ _ (if (Manifest.canonical "super.__getattribute__" != "object.__getattribute__") = true then _ else _) _ _ _
  rw [if_pos hcan]
  unfold getAttr getAttrBy
  refine wpAny_bind (wpAny_bind (wpAny_mkText (wpAny_holding (wpAny_bind (wpAny_typeOf (hT _) (wpAny_bind (wpAny_of_eq hlk ?_)))))))
  show wpAny _ _ (getAttrByItsOwn (.ref so) (.str name t) (.type "super") (.builtin "super.__getattribute__") true false) _ _ _
  unfold getAttrByItsOwn hookBefore callGetattribute boundAndCalled
  refine wpAny_bind (wpAny_of_eq (show (if onTheHeap (.type "super") then typeLookup (.type "super") "__getattr__" else pure none) = pure none from rfl) ?_)
  refine wpAny_bind (wpAny_attempt (wpAny_holding ?_))
  show wpAny _ _ (bindSpecial (.builtin "super.__getattribute__") (.ref so) >>= _) _ _ _
  refine wpAny_bind (wpAny_of_eq (F.ks_slot_super_ga.bind _) ?_)
  refine wpAny_mono (Q := fun v s' => v = .ref h.objs.size ∧ s' = ⟨h.push (bwV x), g, d, t + 1, os⟩) (E := fun _ _ => False)
    (wpAny_call_entry F.ks_slot_super_ga (hT _) F.ks_entry_super_ga (sup_ga hso hno hC hl X hf hxC hn hin ⟨_, rfl, rfl, rfl⟩) (F.ks_gaArgs_super _ _)) (fun v s' hv => ?_) fun _ _ z => z.elim
  obtain ⟨rfl, rfl⟩ := hv
  exact wpAny_pure (wpAny_pure hq)
end
section
open PySem.W PySem.Calls
variable {prog : Program} {w : World} {M : Model} {A : Around} {E : Value → Shared → Prop} {s : Shared}
theorem bwV_callWith {pos : Pos} {u x : Addr} {first : List Value} {args : List (Bool × Sem Value)} {Q : Value → Shared → Prop} (hplain : args.any (·.1) = false)
    (h : wpAny M A (evalArgs (.ref u) true args []) (fun a s₁ => s₁.heap.get? u = some (bwV x) ∧ wpAny M A (call (.ref u) (first ++ a.pos) a.kw) Q E s₁) E s) : wpAny M A (callWith pos (.ref u) first args []) Q E s := by
  unfold callWith
  refine wpAny_bind (wpAny_holding (wpAny_mono h (fun a s₁ h₁ => wpAny_bind (wpAny_standAt ?_)) fun _ _ x => x))
  obtain ⟨ho, hcall⟩ := h₁
  simp only [hplain, List.any_nil, Bool.or_false]
  refine wpAny_bind (m := keeperOf (.ref u)) ?_
  unfold keeperOf
  refine wpAny_bind (wpAny_load ho ?_)
  simp only [bwV, show (Value.type "method-wrapper" != Value.type "method") = true by decide, show (Value.type "method-wrapper" == Value.type "builtin_function_or_method" || Value.type "method-wrapper" == Value.type "method-wrapper") = true by decide, if_true]
  refine wpAny_pure ?_
  exact wpAny_bind (wpAny_mono hcall (fun r s₂ hr => wpAny_bind (wpAny_holding (wpAny_point (wpAny_pure hr)))) fun _ _ x => x)
theorem bwV_args {pos : Pos} {u x : Addr} {first : List Value} {env : Env} {e : Expr} {rest : List Expr} {Q : Value → Shared → Prop}
    (h : wpAny M A (spliced (backTo pos (starEach (e :: rest) env))) (fun vs s₁ => s₁.heap.get? u = some (bwV x) ∧ wpAny M A (call (.ref u) (first ++ vs)) Q E s₁) E s)
    (he : starEach (e :: rest) env = (false, eval e env) :: starEach rest env := by rfl) (hplain : (backTo pos (starEach rest env)).any (·.1) = false := by rfl) :
    wpAny M A (callWith pos (.ref u) first (backTo pos (starEach (e :: rest) env)) []) Q E s := by
  rw [he] at h ⊢
  refine bwV_callWith (x := x) (by show (false || (backTo pos (starEach rest env)).any (·.1)) = false; rw [hplain]; rfl) ?_
  exact evalArgs_plain h
end
section
variable {prog : Program} {w : World} {A : Around} {E : Value → Shared → Prop} {h : Heap} {g : Array GenState} {d : Drawn} {t : Nat} {os : OsState}
variable {nm q : Str} {C N : Addr} {bs bm : List Value} {hdct : Bool} {sn : List Str} {sub : List Value} {ab : Bool} {col : Option Bool} {dd : Option Addr} {k0 k1 k2 k3 k5 : Option Value}
theorem bwV_call {u e t0 : Addr} {rest : List Value} {Q : Value → Shared → Prop}
    (hC : h.get? C = some (excClassObj nm q C N bs bm hdct sn sub ab col dd k0 k1 k2 k3 k5 "ValueError.__new__")) (he : h.get? e = some (HandSPX.excO C t0)) (hu : h.get? u = some (bwV e)) (hrest : rest.length ≤ sizeLine)
    (hq : ∀ h' t1, (∀ b o, b ≠ e → h.get? b = some o → h'.get? b = some o) → h'.get? e = some (HandSPX.excO C t1) → Q .none ⟨h', g, d, t, os⟩) :
    wpAny (model prog w) A (call (.ref u) rest) Q E ⟨h, g, d, t, os⟩ := by
  refine wpAny_call (codeAny_of_tree ?_)
  show wpAny _ A.in1 (callAny (.ref u) ⟨rest, []⟩) _ _ _
  simp only [callAny]
  refine wpAny_bind (wpAny_load hu ?_)
  simp only [bwV, show (Value.type "method-wrapper" == Value.type "method" || Value.type "method-wrapper" == Value.type "builtin_function_or_method" || Value.type "method-wrapper" == Value.type "method-wrapper") = true by decide, if_true]
  refine W.KFB.if_so (by decide) ?_
  refine wpAny_bind (ESX.check_bound F.excBase_ValueError hC he rfl ?_)
  refine wpAny_bind (wpAny_pure (wpAny_pure ?_))
  refine ⟨Code.quiet_builtin _ (by decide +kernel), codeAny_builtin F.excBase_ValueError.initEntry ?_⟩
  rw [Around.under_plainId F.excBase_ValueError.init.plain _]
  wp_walk
  refine hq _ h.objs.size (fun b o hb ho => ?_) ?_
  · rw [Heap.get?_update_other _ _ (Ne.symm hb)]
    exact Heap.get?_push_of_some _ ho
  · rw [Heap.get?_update_self _ (Heap.get?_push_of_some _ he) rfl]
    rfl
end
end OwE
end PySem

/-! Ow.3: __init__ of an exception class of the text keeps its promise -/
namespace Ow
open PySem PySem.Spec L2 NdefX
/-- what the written part says of an exception class and its __init__ F, which stands at f -/
structure ExK (P : Program) (K : PySem.W.Frag) (mg : Str → Option Value) (C f : Addr) (F : NF) : Prop where
  oex : OexC K C
  ini : PySem.W.findIn K (.ref C) "__init__" = some (some (.ref f))
  fun_ : ∃ (od : Option Addr) (sl : Array (Option Value)) (kV doc pm ctv : Value) (an : Option Addr), K.lookup f = some (⟨.type "function", od, .func (PySem.W.fnX F.name F.qual F.params F.body F.scope F.cl .none kV doc pm an (.ref F.c) ctv), sl⟩ : Obj)
  code : ∃ (oc : Value) (od : Option Addr) (vs : Array Value) (sl : Array (Option Value)) (file : Str) (tf : Tok), K.lookup F.c = some (⟨oc, od, .fields vs, sl⟩ : Obj) ∧ vs[2]? = some (.str file tf) ∧ ((P.main.file : Str) == file) = true
  cdq : PySem.W.codeIn K (.ref F.c) F.qual = true
  cell : ∃ (cc : Addr) (oc : Value) (od : Option Addr) (sl : Array (Option Value)), F.cl = [((("__class__" : Str)), cc)] ∧ K.lookup cc = some (⟨oc, od, .cell (some (.ref C)), sl⟩ : Obj)
  along : ∀ cd, PySem.W.clsIn K C = some cd → PySem.W.alongIn K "__init__" ((cd.mro.dropWhile (· != .ref C)).drop 1) = some (some (.builtin "ValueError.__init__"))
  self : PySem.W.mroIn K C (.ref C) = some true
  subV : PySem.W.subIn K (.ref C) (.type "ValueError") = some true
  opq : PySem.W.nsIn K cStatics "thirdparty.any" = some none
  sup : mg "super" = none
section
variable {X : Cx} {pins : List (Addr × Obj)} {σ : St} {H : Hp} {s : Shared} {a C f : Addr} {F : NF}
theorem exo_ne_cls {h : Heap} (hX : X.K.In h) (T : OexC X.K C) {t1 : Addr} {d : Option Addr} (he : h.get? a = some ({ cls := .ref C, dict := d, data := .fields #[.ref t1, .none, .none, .none, .bool false, .none] } : Obj)) : a ≠ C := by
  obtain ⟨nm, q, N, bs, bm, sn, sub, ab, col, dd, k0, k1, k2, k3, k5, hC, hbm⟩ := T.cls
  intro z
  have e := hX _ _ hC
  rw [← z, he] at e
  cases e
/-- super().__init__(TEXT) -/
theorem super_init {body : List Stmt} {p0 p1 p2 p3 p4 p5 : Pos} {txt : Str} {j : Nat} {ar : Arg} {L : Addr} (T : ExK X.prog X.K X.mg C f F) (I : Inv X pins σ H s) (ea : H a = some (exo a C none))
    (henv : X.env = envF F f L) (hself : σ[0]? = some (some (.ref a))) (hN0 : X.N[0]? = some ar.arg)
    (hks : F.scope.names.lookup ("super" : Str) = some .globalImplicit) (hkc : F.scope.names.lookup ("__class__" : Str) = some .free) (hka : F.scope.names.lookup ar.arg = some .local)
    (hp : (F.params.posonlyargs ++ F.params.args).head? = some ar) (htop : (X.prog.main.scope.names.lookup ("super" : Str)).isSome = false)
    (hint : interactive X.env = false) {pl : Sem Bool}
    (hev : eval (.Call (.Attribute (.Call (.Name "super" p0) [] [] p1) "__init__" p2) [.Constant (.str txt) j p3] [] p4) X.env = (do
      let ov ← attributeBase (.Call (.Name "super" p0) [] [] p1) "__init__" X.env (eval (.Call (.Name "super" p0) [] [] p1) X.env)
      standAt p2.atName
      let (fn, first) ← holding [ov] (getMethod ov "__init__" pl)
      callWith p4 fn first (backTo p4 (starEach [.Constant (.str txt) j p3] X.env)) []))
    {Q : Flow → Shared → Prop} {E : Value → Shared → Prop} (hq : ∀ s', Inv X pins σ H s' → Q .next s') :
    PySem.wpAt (model X.prog X.w) X.A (.func body X.env) (exec (.Expr (.Call (.Attribute (.Call (.Name "super" p0) [] [] p1) "__init__" p2) [.Constant (.str txt) j p3] [] p4) p5) X.env) Q E s := by
  refine PySem.ks_wpAt_Expr_any ?_ hint (by rfl)
  refine PySem.ks_wpAt_MethodCall (pl := pl) ?_ hev
  obtain ⟨odf, slf, kV, doc, pm, ctv, an, hf⟩ := T.fun_
  obtain ⟨occ, odc, vsc, slc, file, tf, hcode, hvs, hfile⟩ := T.code
  obtain ⟨cc, ocl, odl, sll, hcl, hcell⟩ := T.cell
  obtain ⟨nm, q, N, bs, bm, sn, sub, ab, col, dd, k0, k1, k2, k3, k5, hC, hbm⟩ := T.oex.cls
  have hcd : PySem.W.clsIn X.K C = some { name := nm, bases := bs, mro := .ref C :: bm, ns := N, qualname := q, hasDict := true, slotNames := sn, subclasses := sub, abstract := ab, collection := col, hasDel := false } := by unfold PySem.W.clsIn; rw [hC] <;> rfl
  have hkS : X.env.kindOf ("super" : Str) = some .globalImplicit := by rw [henv]; exact hks
  have hkC : X.env.kindOf ("__class__" : Str) = some .free := by rw [henv]; exact hkc
  have hkA : X.env.kindOf ar.arg = some .local := by rw [henv]; exact hka
  have hcells : X.env.cells.lookup ("__class__" : Str) = some cc := by
    rw [henv]
    show F.cl.lookup ("__class__" : Str) = some cc
    rw [hcl]
    rfl
  obtain ⟨mb, hb1, hb2⟩ := I.mod.blt
  obtain ⟨m, hns, hl⟩ := id I.loc
  obtain ⟨u, ru, hlook⟩ := hl 0 ar.arg (.ref a) hN0 hself (.inl (by rw [henv]; exact hka))
  obtain rfl : u = Value.ref a := ru
  have hm : m ar.arg = some (.ref a) := by
    rcases hlook with ⟨_, e⟩ | ⟨k, _⟩
    · exact e
    · rw [hkA] at k
      rcases k with k | k <;> cases k
  obtain ⟨t1, hget⟩ := exo_at I.hok ea
  have KI := I.kIn
  have hCg := KI _ _ hC
  have haC : a ≠ C := exo_ne_cls KI T.oex hget
  refine PySem.ks_wpAt_super_base (env := X.env) hkS hkC (by decide) (by rw [henv]) (KI _ _ hf) rfl hp (by rw [henv]) (KI _ _ hcode) rfl hvs hfile htop ?_
  refine PySem.W.ks_loadName_global I.ok.kind hkS (Calls.loadGlobal_builtin (by rw [I.ok.glob]; exact I.mod.glob.keeps I.bk) T.sup (by rw [I.ok.blt]; exact hb1.keeps I.bk) ((hb2 _ (by decide)).trans (by decide +kernel)) ⟨rfl, ?_⟩)
  refine wpAny_loadName_free I.ok.kind hkC hcells ⟨_, KI _ _ hcell, rfl⟩ ?_
  refine wpAny_loadName_local I.ok.kind hkA hns hm ?_
  refine ks_wpAny_isType_cls hCg rfl ⟨rfl, ?_⟩
  obtain ⟨hp', g, d, t, os⟩ := s
  have hIn : PySem.W.InstAt hp' a ({ cls := .ref C, dict := none, data := .fields #[.ref t1, .none, .none, .none, .bool false, .none] } : Obj) C none := ⟨hget, rfl, rfl, trivial⟩
  refine ks_wpAny_call_super hCg rfl hget rfl (fun c e => nomatch e) (PySem.W.looks_mroIn KI T.self) (fun h1 e1 k1' => ?_)
  have I1 := I.kept (h' := h1) (t' := t) k1'
  have K1 := I1.kIn
  have hin : PySem.W.Looks (model X.prog X.w) h1 (isInstance (.ref a) (.type "ValueError")) true := (PySem.W.InstAt.type (od := none) ⟨k1' _ _ hget, rfl, rfl, trivial⟩).andThen (PySem.W.looks_subIn K1 T.subV)
  have hmro : PySem.W.Looks (model X.prog X.w) h1 (mroOf (.ref C)) (.ref C :: bm) := (PySem.W.looks_clsIn K1 hcd).andThen .now
  refine PySem.OwE.sup_method e1 (PySem.W.looks_opaque K1 T.opq) hmro rfl K1 (T.along _ hcd) haC (by decide) hin ?_
  have k2' : ∀ b o, h1.get? b = some o → (h1.push (PySem.OwE.bwV a)).get? b = some o := fun b o e => Heap.get?_push_of_some _ e
  have I2 := I1.kept (h' := h1.push (PySem.OwE.bwV a)) (t' := t + 1) k2'
  have hu2 : (h1.push (PySem.OwE.bwV a)).get? h1.objs.size = some (PySem.OwE.bwV a) := Heap.get?_push_at rfl rfl
  show wpAny _ _ (callWith p4 (.ref h1.objs.size) [] (backTo p4 (starEach [Expr.Constant (.str txt) j p3] X.env)) []) _ _ _
  refine PySem.OwE.bwV_args (x := a) ?_
  have hH0 : H h1.objs.size = none := I1.hok.fresh (Nat.le_refl _)
  have I2p : Inv X ((h1.objs.size, PySem.OwE.bwV a) :: pins) σ H ⟨h1.push (PySem.OwE.bwV a), g, d, t + 1, os⟩ := I2.pins_of fun p hp => by
    rcases List.mem_cons.mp hp with rfl | hp
    · exact ⟨hu2, hH0, Ne.symm (Nat.ne_of_lt I1.lt), I1.nofs (Nat.le_refl _), fun v e => nomatch e⟩
    · exact I2.pin p (List.mem_append_right _ hp)
  refine thn ((pa_cons (X := X) (pe_str (x := txt) (j := j) (pos := p3)) pa_nil).run p4 ((h1.objs.size, PySem.OwE.bwV a) :: pins) _ σ H (fun vs H1 => vs.length = 1 ∧ H1 = H) I2p ⟨rfl, rfl⟩) fun us s1 ⟨vs, H1, I3, r3, hlen, hH⟩ => ?_
  subst hH
  obtain ⟨hu3, _⟩ := I3.pin (h1.objs.size, PySem.OwE.bwV a) (List.mem_append_right _ List.mem_cons_self)
  refine ⟨hu3, ?_⟩
  obtain ⟨t2, hget3⟩ := exo_at I3.hok ea
  have J3 : Inv X pins σ H1 s1 := I3.pins_of fun p hp => I3.pin p (List.mem_append_right _ (List.mem_cons_of_mem _ hp))
  obtain ⟨h3, g3, d3, t3, os3⟩ := s1
  show wpAny _ _ (call (.ref h1.objs.size) us) _ _ _
  refine PySem.OwE.bwV_call (I3.kIn _ _ hC) hget3 hu3 (by rw [← r3.length, hlen, sizeLine_eq]; omega) fun h4 t4 k4 hx4 => ?_
  have J := J3.write (t' := t3) (x := a) (e := a) (o := exo a C none) (by rw [ea]; exact True.intro) (.inl rfl) k4 ⟨_, hx4⟩ (exo_ok hx4)
  have eu : upd H1 a (exo a C none) = H1 := by
    funext b
    by_cases hb : b = a
    · rw [hb, upd_same, ea]
    · rw [upd_ne hb]
  rw [eu] at J
  exact hq _ J
end
end Ow

/-! Ow.4: __init__ of an exception class of the text keeps its promise -/
namespace Ow
open PySem PySem.Spec L2 NdefX
/-- self.f = f for each f -/
inductive IsAsg : List Stmt → List Str → Prop
  | nil : IsAsg [] []
  | cons {f : Str} {fs : List Str} {q0 q1 q2 q3 : Pos} {r : List Stmt} : IsAsg r fs → IsAsg (.Assign [.Attribute (.Name "self" q0) f q1] (.Name f q2) q3 :: r) (f :: fs)
def tFlds (K : PySem.W.Frag) : List (Str × Nat) → TS
  | [] => fun D σ H => D.nx σ H
  | (f, i) :: r => tSeq (tOst K f (tVar 0) (tVar i)) (tFlds K r)
theorem pss_flds {X : Cx} (h0 : X.N[0]? = some ("self" : Str)) (v0 : Vis X.env.scope "self") : ∀ {r : List Stmt} {fs : List Str}, IsAsg r fs → ∀ l : List (Str × Nat), l.map (·.1) = fs → (∀ p ∈ l, X.N[p.2]? = some p.1 ∧ Vis X.env.scope p.1 ∧ (p.1 == ("__debug__" : Str)) = false ∧ (p.1 == ("__classdict__" : Str)) = false) → PSs X r (tFlds X.K l)
  | _, _, .nil, [], _, _ => pss_nil
  | _, _, .nil, _ :: _, e, _ => by cases e
  | _, _, .cons _, [], e, _ => by cases e
  | _, _, .cons (f := f) a, (g, i) :: l, e, h => by
    obtain ⟨e1, e2⟩ := List.cons.inj e
    have e1 : g = f := e1
    subst e1
    obtain ⟨h1, h2, h3, h4⟩ := h (g, i) List.mem_cons_self
    exact pss_cons (ps_ost (pe_var h0 v0) (pe_var h1 h2 h3 h4)) (pss_flds h0 v0 a l e2 fun p hp => h p (List.mem_cons_of_mem _ hp))
/-- further fields -/
theorem flds_more {K : PySem.W.Frag} {C a dx : Addr} (T : OexC K C) {σ : St} (h0 : σ[0]? = some (some (.ref a))) {D : Ends} : ∀ (l : List (Str × Nat)) (ws : List V) (done : List (Str × V)) (H : Hp), l.length = ws.length → (∀ (j : Nat) (p : Str × Nat) (w : V), l[j]? = some p → ws[j]? = some w → σ[p.2]? = some (some w)) →
    (∀ p ∈ l, PySem.W.findIn K (.ref C) p.1 = some none) → done.length + l.length ≤ 900 → H a = some (exo a C (some dx)) → H dx = some (exd dx done) → a ≠ dx → D.nx σ (upd H dx (exd dx (((l.map (·.1)).zip ws).reverse ++ done))) → tFlds K l D σ H
  | [], [], done, H, _, _, _, _, _, hd, _, q => by
    have e : upd H dx (exd dx done) = H := by
      funext b
      by_cases hb : b = dx
      · rw [hb, upd_same, hd]
      · rw [upd_ne hb]
    have q : D.nx σ (upd H dx (exd dx done)) := q
    rw [e] at q
    exact q
  | [], _ :: _, _, _, e, _, _, _, _, _, _, _ => by cases e
  | _ :: _, [], _, _, e, _, _, _, _, _, _, _ => by cases e
  | (f, i) :: l, w :: ws, done, H, e, hs, hn, hl, ha, hd, ne, q => by
    refine ⟨w, hs 0 (f, i) w rfl rfl, .ref a, h0, a, C, rfl, T, hn (f, i) List.mem_cons_self, .inr ⟨dx, done, ha, hd, ?_, ?_⟩⟩
    · simp only [List.length_cons] at hl
      omega
    · refine flds_more T h0 l ws ((f, w) :: done) _ (Nat.succ.inj e) (fun j p v h1 h2 => hs (j + 1) p v h1 h2) (fun p hp => hn p (List.mem_cons_of_mem _ hp)) ?_ ?_ upd_same ne ?_
      · simp only [List.length_cons] at hl ⊢
        omega
      · rw [upd_ne ne]
        exact ha
      · rw [upd_upd]
        have eq : ((((f, i) :: l).map (·.1)).zip (w :: ws)).reverse ++ done = ((l.map (·.1)).zip ws).reverse ++ (f, w) :: done := by
          rw [List.map_cons, List.zip_cons_cons, List.reverse_cons, List.append_assoc]
          rfl
        rw [eq] at q
        exact q
/-- all fields, from none -/
theorem flds_all {K : PySem.W.Frag} {C a : Addr} (T : OexC K C) {σ : St} (h0 : σ[0]? = some (some (.ref a))) {D : Ends} (l : List (Str × Nat)) (ws : List V) (H : Hp) (e : l.length = ws.length) (hs : ∀ (j : Nat) (p : Str × Nat) (w : V), l[j]? = some p → ws[j]? = some w → σ[p.2]? = some (some w))
    (hn : ∀ p ∈ l, PySem.W.findIn K (.ref C) p.1 = some none) (hl : l.length ≤ 800) (ha : H a = some (exo a C none)) (q0 : l = [] → D.nx σ H)
    (q : l ≠ [] → ∀ dx, H dx = none → dx ≠ a → D.nx σ (upd (upd H dx (exd dx ((l.map (·.1)).zip ws).reverse)) a (exo a C (some dx)))) : tFlds K l D σ H := by
  cases l with
  | nil => exact q0 rfl
  | cons p l =>
    obtain ⟨f, i⟩ := p
    cases ws with
    | nil => cases e
    | cons w ws =>
      refine ⟨w, hs 0 (f, i) w rfl rfl, .ref a, h0, a, C, rfl, T, hn (f, i) List.mem_cons_self, .inl ⟨ha, fun dx hdx ne => ?_⟩⟩
      refine flds_more (dx := dx) T h0 l ws [(f, w)] _ (Nat.succ.inj e) (fun j p v h1 h2 => hs (j + 1) p v h1 h2) (fun p hp => hn p (List.mem_cons_of_mem _ hp)) ?_ upd_same ?_ (Ne.symm ne) ?_
      · simp only [List.length_cons, List.length_nil] at hl ⊢
        omega
      · rw [upd_ne ne, upd_same]
      · have z := q (by simp) dx hdx ne
        have e1 : upd (upd (upd H dx (exd dx [(f, w)])) a (exo a C (some dx))) dx (exd dx (((l.map (·.1)).zip ws).reverse ++ [(f, w)])) = upd (upd H dx (exd dx ((((f, i) :: l).map (·.1)).zip (w :: ws)).reverse)) a (exo a C (some dx)) := by
          have e2 : ((((f, i) :: l).map (·.1)).zip (w :: ws)).reverse = ((l.map (·.1)).zip ws).reverse ++ [(f, w)] := by
            rw [List.map_cons, List.zip_cons_cons, List.reverse_cons]
          rw [e2]
          funext b
          by_cases hb : b = a
          · rw [hb, upd_ne (Ne.symm ne), upd_same, upd_same]
          · by_cases hd : b = dx
            · rw [hd, upd_same, upd_ne ne, upd_same]
            · rw [upd_ne hd, upd_ne hb, upd_ne hd, upd_ne hb, upd_ne hd]
        rw [e1]
        exact z
abbrev psOf (fs : List Str) : List Str := ("self" : Str) :: fs
abbrev clsN : List Str := [("__class__" : Str)]
abbrev nsOf (fs : List Str) : List Str := ("self" : Str) :: (fs ++ clsN)
/-- the promise of such an __init__ -/
def spIni (C : Addr) (fs : List Str) : Sp := fun vs H Q _ => ∃ (a : Addr) (ws : List V), vs = .ref a :: ws ∧ ws.length = fs.length ∧ H a = some (exo a C none) ∧ (fs = [] → Q .non H) ∧
  (fs ≠ [] → ∀ dx, H dx = none → dx ≠ a → Q .non (upd (upd H dx (exd dx (fs.zip ws).reverse)) a (exo a C (some dx))))
/-- how the body reads: positions left open -/
structure IniBody (P : Program) (F : NF) (fs : List Str) : Prop where
  sc : NScope (nsOf fs) (psOf fs) clsN F.scope
  sup : F.scope.names.lookup ("super" : Str) = some .globalImplicit
  top : (P.main.scope.names.lookup ("super" : Str)).isSome = false
  par : ∃ ar : Arg, (F.params.posonlyargs ++ F.params.args).head? = some ar ∧ ar.arg = "self"
  dbg : ∀ f ∈ fs, (f == ("__debug__" : Str)) = false ∧ (f == ("__classdict__" : Str)) = false
  int : ∀ f L, interactive (envF F f L) = false
  body : ∃ (p0 p1 p2 p3 p4 p5 : Pos) (txt : Str) (j : Nat) (rest : List Stmt), F.body = .Expr (.Call (.Attribute (.Call (.Name "super" p0) [] [] p1) "__init__" p2) [.Constant (.str txt) j p3] [] p4) p5 :: rest ∧ IsAsg rest fs ∧
    ∀ f L, eval (.Call (.Attribute (.Call (.Name "super" p0) [] [] p1) "__init__" p2) [.Constant (.str txt) j p3] [] p4) (envF F f L) = (do
      let ov ← attributeBase (.Call (.Name "super" p0) [] [] p1) "__init__" (envF F f L) (eval (.Call (.Name "super" p0) [] [] p1) (envF F f L))
      standAt p2.atName
      let (fn, first) ← holding [ov] (getMethod ov "__init__" (plainOf (.Call (.Name "super" p0) [] [] p1) (envF F f L)))
      callWith p4 fn first (backTo p4 (starEach [.Constant (.str txt) j p3] (envF F f L))) [])
theorem ini_ok {P : Program} {w : World} {K : PySem.W.Frag} {mg : Str → Option Value} {base : Heap} {C f : Addr} {F : NF} {fs : List Str} {kV doc pm ctv : Value} {an : Option Addr} (T : ExK P K mg C f F) (B : IniBody P F fs) (hno : ∀ x ∈ fs, PySem.W.findIn K (.ref C) x = some none) (hfs : fs.length ≤ 700)
    (lk : ∃ (od : Option Addr) (sl : Array (Option Value)), K.lookup f = some (⟨.type "function", od, .func (PySem.W.fnX F.name F.qual F.params F.body F.scope F.cl .none kV doc pm an (.ref F.c) ctv), sl⟩ : Obj)) :
    FnOk P w K mg base CX0 1 f (PySem.W.fnX F.name F.qual F.params F.body F.scope F.cl .none kV doc pm an (.ref F.c) ctv) (psOf fs) (spIni C fs) := by
  have len : ∀ vs H Q E, spIni C fs vs H Q E → vs.length = (psOf fs).length := fun vs H Q E h => by
    obtain ⟨a, ws, rfl, hl, _⟩ := h
    rw [List.length_cons, List.length_cons, hl]
  refine ⟨len, fun A outer s H args us vs Q E hr e0 hb r hsp => ?_⟩
  have hl := len _ _ _ _ hsp
  obtain ⟨a, ws, rfl, hw, ha, q0, q1⟩ := hsp
  have bk : ∀ b o, base.get? b = some o → s.heap.get? b = some o := fun b o e => (e0.bs b o e).1
  have KI : K.In s.heap := e0.mod.kin.keeps bk
  have lim : s.heap.NoLimit := e0.mod.nolimit.keeps bk
  obtain ⟨od, sl, lk⟩ := lk
  obtain ⟨cc, ocl, odl, sll, hcl, hcell⟩ := T.cell
  obtain ⟨p0, p1, p2, p3, p4, p5, txt, j, rest, hbody, has, hev⟩ := B.body
  obtain ⟨ar, hpar, har⟩ := B.par
  have S := B.sc
  refine PySem.ks_codeAny_call_defAt hr.depth (KI _ _ lk) rfl lim (PySem.W.codeRec_of KI T.cdq) rfl hb S.nocell (fun ⟨n, v⟩ hy => S.par n (List.of_mem_zip hy).1) (fun h₁ hns kp => ?_) S.co S.gen S.kind
  have hcc : H cc = none ∧ s.heap.get? cc = some (⟨ocl, odl, .cell (some (.ref C)), sll⟩ : Obj) := ⟨(e0.bs cc _ (e0.mod.kin _ _ hcell)).2, KI _ _ hcell⟩
  have CA : CellsAt F.cl clsN [some (.ref C)] s.heap H := by
    rw [hcl]
    refine ⟨rfl, fun y c e => ?_, fun x y c e1 e2 => ?_, fun i y e => ?_⟩
    · have e' := PySem.mem_of_lookup e
      rcases List.mem_singleton.mp e' with z
      obtain ⟨_, rfl⟩ := Prod.mk.inj z
      exact ⟨hcc.1, _, _, hcc.2, rfl⟩
    · obtain ⟨z1, _⟩ := Prod.mk.inj (List.mem_singleton.mp (PySem.mem_of_lookup e1))
      obtain ⟨z2, _⟩ := Prod.mk.inj (List.mem_singleton.mp (PySem.mem_of_lookup e2))
      exact z1.trans z2.symm
    · cases i with
      | succ i => simp at e
      | zero =>
        have e2 : y = ("__class__" : Str) := by simpa using e.symm
        subst e2
        refine ⟨cc, rfl, fun v hv => ?_⟩
        have e3 : v = .ref C := by simpa using hv.symm
        subst e3
        exact ⟨.ref C, rfl, _, hcc.2, rfl⟩
  have I : Inv (ncx CX0 P w K mg base (nsOf fs) F f A outer s H E) [] (startF (nsOf fs) (.ref a :: ws) [some (.ref C)]) H { s with heap := h₁, toks := s.toks + (List.zip (psOf fs) us).length } := inv_startN S hr.hd e0 hl r CA hns kp
  have hX0 : (nsOf fs)[0]? = some ("self" : Str) := rfl
  have key : ∀ s', Inv (ncx CX0 P w K mg base (nsOf fs) F f A outer s H E) [] (startF (nsOf fs) (.ref a :: ws) [some (.ref C)]) H s' →
      wpAny (model P w) (A.deeper (envF F f s.heap.objs.size)) (execs rest (envF F f s.heap.objs.size)) (SP (ncx CX0 P w K mg base (nsOf fs) F f A outer s H E) [] { nx := fun _ H' => Q .non H', rt := Q }) (ncx CX0 P w K mg base (nsOf fs) F f A outer s H E).xe s' := fun s' J => by
    have hidx : ∀ p ∈ (fs.zipIdx 1), (nsOf fs)[p.2]? = some p.1 := fun p hp => by
      obtain ⟨x, i⟩ := p
      obtain ⟨h1, h2, h3⟩ := List.mem_zipIdx hp
      have hi : i - 1 < fs.length := by omega
      show (("self" : Str) :: (fs ++ clsN))[i]? = some x
      obtain ⟨k, rfl⟩ : ∃ k, i = k + 1 := ⟨i - 1, by omega⟩
      rw [List.getElem?_cons_succ, List.getElem?_append_left (by omega), List.getElem?_eq_getElem (by omega)]
      rw [h3]
      rfl
    have hp := pss_flds (X := ncx CX0 P w K mg base (nsOf fs) F f A outer s H E) hX0 (.inl (S.par _ List.mem_cons_self)) has (fs.zipIdx 1) (by simp) (fun p hp => by
      have hm : p.1 ∈ fs := List.fst_mem_of_mem_zipIdx hp
      exact ⟨hidx p hp, .inl (S.par _ (List.mem_cons_of_mem _ hm)), B.dbg _ hm⟩)
    refine hp.run [] s' _ H _ J (flds_all T.oex rfl (fs.zipIdx 1) ws H (by rw [List.length_zipIdx]; exact hw.symm) (fun i p v h1 h2 => ?_) (fun p hp => hno _ (List.fst_mem_of_mem_zipIdx hp)) (by rw [List.length_zipIdx]; omega) ha (fun z => ?_) (fun z dx h1 h2 => ?_))
    · rw [List.getElem?_zipIdx] at h1
      cases e : fs[i]? with
      | none =>
        rw [e] at h1
        cases h1
      | some x =>
        rw [e] at h1
        have e1 : (x, 1 + i) = p := Option.some.inj h1
        subst e1
        show (startF (nsOf fs) (.ref a :: ws) [some (.ref C)])[1 + i]? = some (some v)
        unfold startF
        have hi : i < ws.length := (List.getElem?_eq_some_iff.mp h2).1
        rw [List.getElem?_append_left (by simp; omega), List.getElem?_map, Nat.add_comm, List.getElem?_cons_succ, h2]
        rfl
    · have z2 : fs = [] := by
        cases fs with
        | nil => rfl
        | cons x r => cases z
      exact q0 z2
    · have z2 : fs ≠ [] := fun e => z (by rw [e]; rfl)
      have e : (fs.zipIdx 1).map (·.1) = fs := by simp
      show Q .non _
      rw [e]
      exact q1 z2 dx h1 h2
  have fin : ∀ (fl : Flow) (s' : Shared), SP (ncx CX0 P w K mg base (nsOf fs) F f A outer s H E) [] { nx := fun _ H' => Q .non H', rt := Q } fl s' → CR CX0 outer P w H s Q E (.ok (.ret (match fl with | .ret v => v | _ => .none))) s' := fun fl s' hs => by
    cases fl with
    | ret u =>
      obtain ⟨v, σ', H', J, rv, q⟩ := hs
      exact ⟨v, H', J.os, J.bare, J.base, J.hok, rv, q⟩
    | next =>
      obtain ⟨σ', H', J, q⟩ := hs
      exact ⟨.non, H', J.os, J.bare, J.base, J.hok, rfl, q⟩
    | brk =>
      obtain ⟨_, _, _, q⟩ := hs
      exact False.elim q
    | cont =>
      obtain ⟨_, _, _, q⟩ := hs
      exact False.elim q
  show PySem.wpAt (model P w) (A.deeper (envF F f s.heap.objs.size)) (.func F.body (envF F f s.heap.objs.size)) (execs F.body (envF F f s.heap.objs.size)) _ _ _
  have eb : execs F.body (envF F f s.heap.objs.size) = execs (.Expr (.Call (.Attribute (.Call (.Name "super" p0) [] [] p1) "__init__" p2) [.Constant (.str txt) j p3] [] p4) p5 :: rest) (envF F f s.heap.objs.size) := by rw [hbody]
  rw [eb]
  refine PySem.ks_wpAt_mono (PySem.ks_wpAt_execs_cons (super_init (X := ncx CX0 P w K mg base (nsOf fs) F f A outer s H E) (ar := ar) T I ha rfl rfl (by rw [har]; rfl) B.sup (S.frk _ List.mem_cons_self) (by rw [har]; exact S.par _ List.mem_cons_self) hpar B.top (B.int _ _) (hev _ _) fun s' J => ?_)) (fun fl s' hs => fin fl s' hs) fun e s' hs => hs
  exact PySem.wpAt_of_wpAny (key s' J)
end Ow

/-! Ow.5: exceptions as values: made, their fields read, isinstance -/
namespace Ow
open PySem PySem.Spec L2 NdefX PyProof.Rows
/-- at a stands an exception of the class at C with the fields l -/
def ExcAt (H : Hp) (a C : Addr) (l : List (Str × V)) : Prop := (l = [] ∧ H a = some (exo a C none)) ∨ ∃ d, H a = some (exo a C (some d)) ∧ H d = some (exd d l)
theorem ExcAt.same {H H' : Hp} {a C : Addr} {l : List (Str × V)} (e : ExcAt H a C l) (s : Same H H') : ExcAt H' a C l := by
  rcases e with ⟨e, h⟩ | ⟨d, h1, h2⟩
  · exact .inl ⟨e, s _ _ h⟩
  · exact .inr ⟨d, s _ _ h1, s _ _ h2⟩
/-- what the text says of an exception class -/
structure ExCl (P : Program) (K : PySem.W.Frag) (mg : Str → Option Value) (x : Str) (C f : Addr) (F : NF) (fs : List Str) (fd : FuncData) : Prop where
  k : ExK P K mg C f F
  b : IniBody P F fs
  no : ∀ y ∈ fs, PySem.W.findIn K (.ref C) y = some none
  len : fs.length ≤ 700
  ty : PySem.W.typeIn K (.ref f) = some (.type "function")
  fd_ : ∃ (od : Option Addr) (sl : Array (Option Value)) (kV doc pm ctv : Value) (an : Option Addr), fd = PySem.W.fnX F.name F.qual F.params F.body F.scope F.cl .none kV doc pm an (.ref F.c) ctv ∧ K.lookup f = some (⟨.type "function", od, .func fd, sl⟩ : Obj)
  xf : XfC K C
  mgx : mg x = some (.ref C)
theorem ExCl.ok {P : Program} {w : World} {K : PySem.W.Frag} {mg : Str → Option Value} {base : Heap} {x : Str} {C f : Addr} {F : NF} {fs : List Str} {fd : FuncData} (T : ExCl P K mg x C f F fs fd) : FnOk P w K mg base CX0 1 f fd (psOf fs) (spIni C fs) := by
  obtain ⟨od, sl, kV, doc, pm, ctv, an, rfl, lk⟩ := T.fd_
  exact ini_ok T.k T.b T.no T.len ⟨od, sl, lk⟩
/-- C(.., k = v, ..) as a value -/
def tExc (C : Addr) (fs : List Str) (n m : Nat) (gV : List V → List V → List V) (t tk : TA) : TE := fun σ H Q => t σ H fun vs H1 => tk σ H1 fun zs H2 => vs.length = n ∧ zs.length = m ∧ (gV vs zs).length = fs.length ∧
  ∀ a H3, H2 a = none → Same H2 H3 → ExcAt H3 a C (fs.zip (gV vs zs)).reverse → Q (.ref a) H3
/-- how arguments come to the fields -/
structure EBn (K : PySem.W.Frag) (fd : FuncData) (fs : List Str) (n : Nat) (ks : List Str) (g : List Value → List Value → List Value) (gV : List V → List V → List V) : Prop where
  to : ∀ (s : Shared) (u : Value) (us ws : List Value), us.length = n → ws.length = ks.length → BindsTo s fd ⟨u :: us, ks.zip ws⟩ ((psOf fs).zip (u :: g us ws))
  rel : ∀ {vs : List V} {us : List Value} {zs : List V} {ws : List Value}, Vals vs us → Vals zs ws → Vals (gV vs zs) (g us ws)
section
variable {X : Cx} {n : Nat} {f C : Addr} {F : NF} {fd : FuncData} {fs ks : List Str} {x : Str} {p pos : Pos} {e : Expr} {es : List Expr} {kws : List Keyword} {t tk : TA} {g : List Value → List Value → List Value} {gV : List V → List V → List V}
theorem run_exc {pins : List (Addr × Obj)} {σ : L2.St} {H : Hp} {s : Shared} {Q : VK} {us ws : List Value} {vs zs : List V} (T : ExCl X.prog X.K X.mg x C f F fs fd) (hr : Room 2 X.A) (hb : EBn X.K fd fs n ks g gV) (I : Inv X pins σ H s) (r : Vals vs us) (rz : Vals zs ws) (l1 : vs.length = n) (l2 : zs.length = ks.length)
    (hn : n ≤ 1000) (l3 : (gV vs zs).length = fs.length) (h : ∀ a H3, H a = none → Same H H3 → ExcAt H3 a C (fs.zip (gV vs zs)).reverse → Q (.ref a) H3) : wpAny (model X.prog X.w) X.A (call (.ref C) us (ks.zip ws)) (EP X pins σ Q) X.xe s := by
  obtain ⟨nm, q, N, bs, bm, sn, sub, ab, col, dd, k0, k1, k2, k3, k5, hC, hbm⟩ := T.k.oex.cls
  obtain ⟨hp, gg, dr, tk, os⟩ := s
  have hsz : hp.objs.size ≤ hp.objs.size + 1 := Nat.le_succ _
  have hnn : H (hp.objs.size + 1) = none := I.hok.fresh hsz
  have kk : ∀ b o, hp.get? b = some o → ((hp.push (PySem.W.kdv_tup us)).push (PySem.HandSPX.excO C hp.objs.size)).get? b = some o := fun b o e => Heap.get?_push_of_some _ (Heap.get?_push_of_some _ e)
  have hget : ((hp.push (PySem.W.kdv_tup us)).push (PySem.HandSPX.excO C hp.objs.size)).get? (hp.objs.size + 1) = some (PySem.HandSPX.excO C hp.objs.size) := by heap_get
  have I2 : Inv X pins σ (upd H (hp.objs.size + 1) (exo (hp.objs.size + 1) C none)) ⟨(hp.push (PySem.W.kdv_tup us)).push (PySem.HandSPX.excO C hp.objs.size), gg, dr, tk, os⟩ :=
    I.laid (t' := tk) (a := hp.objs.size + 1) (o := exo (hp.objs.size + 1) C none) kk hsz (exo_ok hget)
  have hus : us.length ≤ sizeLine := by
    rw [← Paired.length r, sizeLine_eq]
    omega
  have S0 : Same H (upd H (hp.objs.size + 1) (exo (hp.objs.size + 1) C none)) := fun b o e => by
    rw [upd_ne (ne_of_none e hnn)]
    exact e
  have hq : spIni C fs (V.ref (hp.objs.size + 1) :: gV vs zs) (upd H (hp.objs.size + 1) (exo (hp.objs.size + 1) C none)) (fun v H3 => v = .non ∧ Q (.ref (hp.objs.size + 1)) H3) (fun _ _ _ => False) := by
    refine ⟨hp.objs.size + 1, gV vs zs, rfl, l3, upd_same, fun z => ⟨rfl, ?_⟩, fun z dx h1 h2 => ⟨rfl, ?_⟩⟩
    · refine h _ _ hnn S0 (.inl ⟨?_, upd_same⟩)
      rw [z]
      rfl
    · refine h _ _ hnn (fun b o e => ?_) (.inr ⟨dx, upd_same, ?_⟩)
      · rw [upd_ne (ne_of_none e hnn), upd_ne (ne_of_none (S0 _ _ e) h1)]
        exact S0 _ _ e
      · rw [upd_ne h2, upd_same]
  have r2 : Vals (V.ref (hp.objs.size + 1) :: gV vs zs) (Value.ref (hp.objs.size + 1) :: g us ws) := .cons rfl (hb.rel r rz)
  refine wpAny_call (PySem.OwE.callK PySem.F.excBase_ValueError (fun Y => PySem.HandSPX.refsVE_contains Y bm hbm) (I.kIn _ _ hC) (PySem.W.looks_findIn I.kIn T.k.ini) (fun self => PySem.W.bind_fn I.kIn self T.ty) hus
    (codeAny_mono ((T.ok (w := X.w) (base := X.base)).run _ X.stack _ _ ⟨Value.ref (hp.objs.size + 1) :: us, ks.zip ws⟩ (Value.ref (hp.objs.size + 1) :: g us ws) _ _ (fun _ _ _ => False) ((hr.make C us (ks.zip ws)).mono (Nat.le_refl _)) (I2.env0.make C us (ks.zip ws)) (hb.to _ _ us ws (by rw [← Paired.length r]; exact l1) (by rw [← Paired.length rz]; exact l2)) r2 hq) fun r s' hq' => ?_))
  cases r with
  | error er => exact False.elim hq'
  | ok fl =>
    cases fl with
    | ret u =>
      obtain ⟨v, H', I3, rv, ev, q3⟩ := I2.after hq'
      subst ev
      exact ⟨rv, ⟨V.ref (hp.objs.size + 1), H', I3, rfl, q3⟩⟩
    | next => exact False.elim hq'
    | brk => exact False.elim hq'
    | cont => exact False.elim hq'
/-- C(k = v, ..) -/
theorem pe_exc0 (T : ExCl X.prog X.K X.mg x C f F fs fd) (hr : Room 2 X.A) (hg : Gl X x) (hb : EBn X.K fd fs 0 ks g gV) (hkw : PK X kws tk)
    (hall : (backToKw pos (keywordEach kws X.env)).all (·.1.isSome) = true := by rfl) (hks : (backToKw pos (keywordEach kws X.env)).filterMap (·.1) = ks := by rfl) (hdb : (x == ("__debug__" : Str)) = false := by decide)
    (hpl : ((backTo pos (starEach [] X.env)).any (·.1) || (backToKw pos (keywordEach kws X.env)).any (·.1.isNone)) = false := by rfl) :
    PE X (.Call (.Name x p) [] kws pos) (tExc C fs 0 ks.length gV tNil tk) := by
  refine ⟨fun pins s σ H Q I h => ?_⟩
  refine wpAny_Call_Name_kw (ld_glob I hg T.mgx ?_ hdb)
  refine PySem.W.callWith_KW0 (h₀ := X.base) I.ok.mod.kin T.k.oex.kC hall ?_ hpl
  refine thn (hkw.run pos pins s σ H _ I h) fun ws s2 ⟨zs, H2, I2, rz, l1, l2, l3, q2⟩ => ⟨I2.kIn, ?_⟩
  rw [hks]
  exact run_exc (us := []) (vs := []) T hr hb I2 .nil rz rfl l2 (by decide) l3 q2
/-- C(e, .., k = v, ..) -/
theorem pe_excN (T : ExCl X.prog X.K X.mg x C f F fs fd) (hr : Room 2 X.A) (hg : Gl X x) (hn : n ≤ 1000) (hb : EBn X.K fd fs n ks g gV) (ha : PA X (e :: es) t) (hkw : PK X kws tk)
    (hall : (backToKw pos (keywordEach kws X.env)).all (·.1.isSome) = true := by rfl) (hks : (backToKw pos (keywordEach kws X.env)).filterMap (·.1) = ks := by rfl) (hdb : (x == ("__debug__" : Str)) = false := by decide)
    (he : starEach (e :: es) X.env = (false, eval e X.env) :: starEach es X.env := by rfl) (hpl : ((backTo pos (starEach (e :: es) X.env)).any (·.1) || (backToKw pos (keywordEach kws X.env)).any (·.1.isNone)) = false := by rfl) :
    PE X (.Call (.Name x p) (e :: es) kws pos) (tExc C fs n ks.length gV t tk) := by
  refine ⟨fun pins s σ H Q I h => ?_⟩
  refine wpAny_Call_Name_kw (ld_glob I hg T.mgx ?_ hdb)
  refine PySem.W.callWith_KW (h₀ := X.base) I.ok.mod.kin T.k.oex.kC hall (thn (ha.run pos pins s σ H _ I h) fun us s1 ⟨vs, H1, I1, r, q⟩ => ?_) hpl he
  refine thn (hkw.run pos pins s1 σ H1 _ I1 q) fun ws s2 ⟨zs, H2, I2, rz, l1, l2, l3, q2⟩ => ⟨I2.kIn, ?_⟩
  rw [hks]
  exact run_exc T hr hb I2 r rz l1 l2 hn l3 q2
/-- e.f -/
def tEfl (K : PySem.W.Frag) (y : Str) (te : TE) : TE := fun σ H Q => te σ H fun x H1 => ∃ (a C : Addr) (l : List (Str × V)) (v : V), x = .ref a ∧ ExcAt H1 a C l ∧ XfC K C ∧ PySem.W.findIn K (.ref C) y = some none ∧ l.lookup y = some v ∧ Q v H1
theorem pe_efl {K : PySem.W.Frag} {e : Expr} {te : TE} {y : Str} (he : PE X e te) (hK : X.K = K := by rfl) (hb : attributeBase e y X.env (eval e X.env) = eval e X.env := by rfl) : PE X (.Attribute e y pos) (tEfl K y te) := by
  subst hK
  refine ⟨fun pins s σ H Q I h => ?_⟩
  refine attr_of hb (thn (he.run pins s σ H _ I h) fun u s1 hh => ?_)
  obtain ⟨x, H1, I1, rx, a, C, l, v, rfl, ea, T, hno, hl, q⟩ := hh
  obtain rfl : u = Value.ref a := rx
  rcases ea with ⟨rfl, _⟩ | ⟨d, ea, ed⟩
  · cases hl
  obtain ⟨t1, ha⟩ := exo_at I1.hok ea
  obtain ⟨mA, hns, hr⟩ := exd_at I1.hok ed
  obtain ⟨od, ho, hlk⟩ := lookIn_ns hns
  obtain ⟨u, hu, ru⟩ := RelO.some_of (v := v) (o := mA y) (by rw [← hl]; exact hr y)
  have J : PySem.W.InstAt s1.heap a _ C (some od) := ⟨ha, rfl, rfl, ho⟩
  exact HandSPX.exc_get I1.kIn J T.ga T.gg T.exC (PySem.W.findObj_own T.hdC hno rfl (by rw [hlk, hu])) (handed_of ru) ⟨v, H1, I1.tok _, ru, q⟩
end
/-- what the class must say for isinstance -/
structure EIs (K : PySem.W.Frag) (C : Addr) : Prop where
  cl : (PySem.W.clsIn K C).isSome = true
  ga : PySem.W.findIn K (.ref C) "__getattribute__" = some (some (.builtin "BaseException.__getattribute__"))
  gg : PySem.W.findIn K (.ref C) "__getattr__" = some none
  sb : PySem.W.subIn K (.ref C) (.type "BaseException") = some true
  kc : PySem.W.findIn K (.ref C) "__class__" = some (some (.builtin "object.__class__"))
  sg : PySem.W.specialIn K (.builtin "object.__class__") "__get__" = some (some (.builtin "getset_descriptor.__get__"))
  tk : PySem.W.takesIn K (.builtin "object.__class__") = some true
  mo : PySem.W.mroIn K C (.type "object") = some true
def rEis (K : PySem.W.Frag) : List V → Hp → VK → Prop := fun xs H Q => ∃ (a C : Addr) (l : List (Str × V)) (c : V) (cv : Value) (b : Bool), xs = [.ref a, c] ∧ ExcAt H a C l ∧ EIs K C ∧ (∀ u, RelV c u → u = cv) ∧ PySem.W.kitOne K (.ref C) cv = some b ∧ Q (.bl b) H
theorem call_eis {X : Cx} : CallR X (.builtin "isinstance") (rEis X.K) := by
  intro pins s σ H xs us Q I r h
  obtain ⟨a, C, l, c, cv, b, rfl, ea, T, hcv, e, q⟩ := h
  cases r with
  | cons rx rr =>
    cases rr with
    | cons rt rr =>
      cases rr
      cases rx
      have ec := hcv _ rt
      subst ec
      rcases ea with ⟨_, ea⟩ | ⟨d, ea, ed⟩
      · obtain ⟨t1, ha⟩ := exo_at I.hok ea
        exact PySem.W.kia_one (PySem.W.kitx_exc (od := none) T.cl T.ga T.gg T.sb T.kc T.sg T.tk T.mo) I.kIn ⟨ha, rfl, rfl, trivial⟩ e (fun z => nomatch z) fun tk => ⟨.bl b, H, I.kept (t' := tk) fun _ _ z => z, rfl, q⟩
      · obtain ⟨t1, ha⟩ := exo_at I.hok ea
        obtain ⟨mA, hns, hr⟩ := exd_at I.hok ed
        obtain ⟨od, ho, _⟩ := lookIn_ns hns
        exact PySem.W.kia_one (PySem.W.kitx_exc (od := some od) T.cl T.ga T.gg T.sb T.kc T.sg T.tk T.mo) I.kIn ⟨ha, rfl, rfl, ho⟩ e (fun z => nomatch z) fun tk => ⟨.bl b, H, I.kept (t' := tk) fun _ _ z => z, rfl, q⟩
end Ow

/-! Ow.6: what is looked at of an exception class behind the top -/
namespace Ow
open PySem PySem.Spec L2 NdefX
def oexB (K : PySem.W.Frag) (C : Addr) : Bool := match K.lookup C with
  | some ⟨.type t, _, .cls cd, sl⟩ => decide (t = "type") && (match cd.mro, sl.toList with
    | .ref C' :: bm, [_, _, _, _, some (.builtin n), _] => decide (C' = C) && (decide (n = "ValueError.__new__") && (!cd.hasDel && (cd.hasDict && PySem.HandSPX.refsVE bm)))
    | _, _ => false)
  | _ => false
theorem oexB_ok {K : PySem.W.Frag} {C : Addr} (h : oexB K C = true) :
    ∃ nm q N bs bm sn sub ab col dd k0 k1 k2 k3 k5, K.lookup C = some (excClassObj nm q C N bs bm true sn sub ab col dd k0 k1 k2 k3 k5 "ValueError.__new__") ∧ PySem.HandSPX.refsVE bm = true := by
  unfold oexB at h
  split at h
  · rename_i t dd cd sl ho
    have h1 := (He.ba h).1
    replace h := (He.ba h).2
    replace h1 := of_decide_eq_true h1
    subst h1
    split at h
    · rename_i C' bm k0 k1 k2 k3 n k5 hm hs
      have h1 := (He.ba h).1
      replace h := (He.ba h).2
      have h2 := (He.ba h).1
      replace h := (He.ba h).2
      have h3 := (He.ba h).1
      replace h := (He.ba h).2
      obtain ⟨h4, h5⟩ := He.ba h
      replace h1 := of_decide_eq_true h1
      replace h2 := of_decide_eq_true h2
      subst h1 h2
      obtain ⟨nm, bs, mro, ns, qn, hd, sn, sub, ab, col, del⟩ := cd
      dsimp only at hm h3 h4
      replace h3 : del = false := by simpa using h3
      subst hm h3 h4
      have hsl : sl = #[k0, k1, k2, k3, some (.builtin "ValueError.__new__"), k5] := by
        obtain ⟨l⟩ := sl
        simp only at hs
        rw [hs]
      subst hsl
      exact ⟨nm, qn, ns, bs, bm, sn, sub, ab, col, dd, k0, k1, k2, k3, k5, ho, h5⟩
    · cases h
  · cases h
/-- the __init__ at f: its closure holds the class, its code the file -/
def iniB (file : Str) (K : PySem.W.Frag) (C f : Addr) : Bool := match K.lookup f with
  | some ⟨.type t, _, .func fd, _⟩ => decide (t = "function") && (decide (fd.globals = mainGlobals) && (decide (fd.builtins = builtinsNs) && (decide (fd.defaults = Value.none) && (match fd.closure, fd.code with
    | [(n, cc)], .ref c => decide (n = ("__class__" : Str)) && (PySem.W.codeIn K (.ref c) fd.qualname && ((match K.lookup cc with
      | some ⟨_, _, .cell (some v), _⟩ => decide (v = .ref C)
      | _ => false) && (match K.lookup c with
      | some ⟨_, _, .fields vs, _⟩ => (match (vs[2]? : Option Value) with
        | some (.str z _) => file == z
        | _ => false)
      | _ => false)))
    | _, _ => false))))
  | _ => false
theorem iniB_ok {file : Str} {K : PySem.W.Frag} {C f : Addr} (h : iniB file K C f = true) :
    ∃ (od : Option Addr) (sl : Array (Option Value)) (fd : FuncData) (cc c : Addr), K.lookup f = some (⟨.type "function", od, .func fd, sl⟩ : Obj) ∧ fd.globals = mainGlobals ∧ fd.builtins = builtinsNs ∧ fd.defaults = .none ∧ fd.closure = [(("__class__" : Str), cc)] ∧ fd.code = .ref c ∧ PySem.W.codeIn K (.ref c) fd.qualname = true ∧
      (∃ (oc : Value) (oo : Option Addr) (os : Array (Option Value)), K.lookup cc = some (⟨oc, oo, .cell (some (.ref C)), os⟩ : Obj)) ∧
      ∃ (oc : Value) (oo : Option Addr) (vs : Array Value) (os : Array (Option Value)) (z : Str) (tf : Tok), K.lookup c = some (⟨oc, oo, .fields vs, os⟩ : Obj) ∧ vs[2]? = some (.str z tf) ∧ (file == z) = true := by
  unfold iniB at h
  split at h
  · rename_i t od fd sl ho
    have h1 := (He.ba h).1
    replace h := (He.ba h).2
    have h2 := (He.ba h).1
    replace h := (He.ba h).2
    have h3 := (He.ba h).1
    replace h := (He.ba h).2
    have h4 := (He.ba h).1
    replace h := (He.ba h).2
    replace h1 := of_decide_eq_true h1
    subst h1
    split at h
    · rename_i n cc c hcl hcd
      have h5 := (He.ba h).1
      replace h := (He.ba h).2
      have h6 := (He.ba h).1
      replace h := (He.ba h).2
      obtain ⟨h7, h8⟩ := He.ba h
      replace h5 := of_decide_eq_true h5
      subst h5
      refine ⟨od, sl, fd, cc, c, ho, of_decide_eq_true h2, of_decide_eq_true h3, of_decide_eq_true h4, hcl, hcd, h6, ?_, ?_⟩
      · split at h7
        · rename_i oc oo v os q
          have e := of_decide_eq_true h7
          subst e
          exact ⟨oc, oo, os, q⟩
        · cases h7
      · split at h8
        · rename_i oc oo vs os q
          split at h8
          · rename_i z tf e
            exact ⟨oc, oo, vs, os, z, tf, q, e, h8⟩
          · cases h8
        · cases h8
    · cases h
  · cases h
def alongB (K : PySem.W.Frag) (C : Addr) : Bool := match PySem.W.clsIn K C with
  | some cd => He.eqO (PySem.W.alongIn K "__init__" ((cd.mro.dropWhile (· != .ref C)).drop 1)) (some (some (.builtin "ValueError.__init__")))
  | none => false
def bEq (a b : Option Bool) : Bool := decide (a = b)
/-- all that is looked at of the class x with the fields fs -/
def excB (file : Str) (K : PySem.W.Frag) (x : Str) (fs : List Str) : Bool :=
  He.eqO (PySem.W.nsIn K mainGlobals x) (some (some (.ref (He.ga K x)))) && (oexB K (He.ga K x) && (PySem.W.keepIn K (.ref (He.ga K x)) && (He.eqO (PySem.W.findIn K (.ref (He.ga K x)) "__setattr__") (some (some (.builtin "object.__setattr__"))) &&
  (decide (PySem.W.typeIn K (.ref (He.ga K x)) = some (.type "type")) && (He.eqO (PySem.W.findIn K (.ref (He.ga K x)) "__init__") (some (some (.ref (He.ma K (He.ga K x) "__init__")))) && (decide (PySem.W.typeIn K (.ref (He.ma K (He.ga K x) "__init__")) = some (.type "function")) &&
  (iniB file K (He.ga K x) (He.ma K (He.ga K x) "__init__") && (alongB K (He.ga K x) && (bEq (PySem.W.mroIn K (He.ga K x) (.ref (He.ga K x))) (some true) && (bEq (PySem.W.subIn K (.ref (He.ga K x)) (.type "ValueError")) (some true) &&
  (fs.all (fun y => He.eqO (PySem.W.findIn K (.ref (He.ga K x)) y) (some none)) && (xfB K (He.ga K x) && (He.eqO (PySem.W.findIn K (.ref (He.ga K x)) "__class__") (some (some (.builtin "object.__class__"))) && bEq (PySem.W.mroIn K (He.ga K x) (.type "object")) (some true))))))))))))))
/-- what is looked at once -/
def excB0 (K : PySem.W.Frag) : Bool := He.eqO (PySem.W.nsIn K cStatics "thirdparty.any") (some none) && (He.eqO (PySem.W.nsIn K mainGlobals "super") (some none) &&
  (He.eqO (PySem.W.specialIn K (.builtin "object.__class__") "__get__") (some (some (.builtin "getset_descriptor.__get__"))) && bEq (PySem.W.takesIn K (.builtin "object.__class__")) (some true)))
/-- F with the closure and code that K tells -/
def nfOf (qual : Str) (st : Stmt) (cl : List (Str × Addr)) (c : Addr) : NF := ⟨"__init__", qual, defArgs st, defBody st, defScope st, cl, c⟩
theorem excB_ok {P : Program} {K : PySem.W.Frag} {mg : Str → Option Value} {h : Heap} {x qual : Str} {fs : List Str} {st : Stmt} (X : K.In h) (G : h.Ns mainGlobals mg) (b0 : excB0 K = true) (b : excB P.main.file K x fs = true) (hl : fs.length ≤ 700)
    (hm : fnC K (He.ma K (He.ga K x) "__init__") = some (("__init__" : Str), qual, defArgs st, FuncBody.stmts (defBody st), defScope st)) (hi : ∀ cl c, IniBody P (nfOf qual st cl c) fs) :
    ∃ cl c fd, ExCl P K mg x (He.ga K x) (He.ma K (He.ga K x) "__init__") (nfOf qual st cl c) fs fd ∧ EIs K (He.ga K x) := by
  obtain ⟨o1, b0⟩ := He.ba b0
  obtain ⟨o2, b0⟩ := He.ba b0
  obtain ⟨o3, o4⟩ := He.ba b0
  obtain ⟨c1, b⟩ := He.ba b
  obtain ⟨c2, b⟩ := He.ba b
  obtain ⟨c3, b⟩ := He.ba b
  obtain ⟨c4, b⟩ := He.ba b
  obtain ⟨c5, b⟩ := He.ba b
  obtain ⟨c6, b⟩ := He.ba b
  obtain ⟨c7, b⟩ := He.ba b
  obtain ⟨c8, b⟩ := He.ba b
  obtain ⟨c9, b⟩ := He.ba b
  obtain ⟨c10, b⟩ := He.ba b
  obtain ⟨c11, b⟩ := He.ba b
  obtain ⟨c12, b⟩ := He.ba b
  obtain ⟨c13, b⟩ := He.ba b
  obtain ⟨c14, c15⟩ := He.ba b
  have xf := xfB_ok c13
  obtain ⟨od, sl, fd, cc, c, lk, g1, g2, g3, g4, g5, g6, ⟨oc, oo, os, gc⟩, ⟨oc2, oo2, vs, os2, z, tf, gd, ge, gf⟩⟩ := iniB_ok c8
  have hm2 : some (fd.name, fd.qualname, fd.params, fd.body, fd.scope) = some (("__init__" : Str), qual, defArgs st, FuncBody.stmts (defBody st), defScope st) := by
    rw [← hm]
    unfold fnC
    rw [lk]
  simp only [Option.some.injEq, Prod.mk.injEq] at hm2
  obtain ⟨m1, m2, m3, m4, m5⟩ := hm2
  obtain ⟨n1, n2, n3, n4, n5, n6, n7, n8, n9, n10, n11, n12, n13, n14, n15⟩ := fd
  dsimp only at m1 m2 m3 m4 m5 g1 g2 g3 g4 g5
  subst m1 m2 m3 m4 m5 g1 g2 g3 g4 g5
  have cls := oexB_ok c2
  refine ⟨[(("__class__" : Str), cc)], c, _, ⟨⟨⟨cls, He.eqO_ok c4, xf.exC, of_decide_eq_true c5, c3⟩, He.eqO_ok c6, ⟨od, sl, n9, n10, n11, n14, n12, lk⟩, ⟨oc2, oo2, vs, os2, z, tf, gd, ge, gf⟩, g6, ⟨cc, oc, oo, os, rfl, gc⟩, fun cd hcd => ?_, of_decide_eq_true c10, of_decide_eq_true c11, He.eqO_ok o1, PySem.W.mg_none_of X G (He.eqO_ok o2)⟩, hi _ _,
    fun y hy => He.eqO_ok (List.all_eq_true.mp c12 y hy), hl, of_decide_eq_true c7, ⟨od, sl, n9, n10, n11, n14, n12, rfl, lk⟩, xf, PySem.W.mg_of X G (He.eqO_ok c1)⟩, ⟨?_, xf.ga, xf.gg, xf.exC, He.eqO_ok c14, He.eqO_ok o3, of_decide_eq_true o4, of_decide_eq_true c15⟩⟩
  · unfold alongB at c9
    rw [hcd] at c9
    exact He.eqO_ok c9
  · cases e : PySem.W.clsIn K (He.ga K x) with
    | some cd => rfl
    | none =>
      unfold alongB at c9
      rw [e] at c9
      cases c9
end Ow

/-! Ow.E7: exception classes by name -/
namespace Ow
open PySem PySem.Spec L2 NdefX
/-- the module's name x stands for the exception class of the text whose __init__ is st, with the fields fs -/
def ClsAt (P : Program) (K : PySem.W.Frag) (mg : Str → Option Value) (x qual : Str) (st : Stmt) (fs : List Str) : Prop :=
  ∃ cl c fd, ExCl P K mg x (He.ga K x) (He.ma K (He.ga K x) "__init__") (nfOf qual st cl c) fs fd ∧ EIs K (He.ga K x)
def gKw {α : Type} (us ws : List α) : List α := us ++ ws.reverse
theorem vals_rev : ∀ {vs : List V} {us : List Value}, Vals vs us → Vals vs.reverse us.reverse
  | _, _, .nil => .nil
  | _, _, .cons (a := a) (b := b) (l₁ := l1) (l₂ := l2) r t => by
    rw [List.reverse_cons, List.reverse_cons]
    exact (vals_rev t).append (.cons r .nil)
/-- how the arguments of a call come to the parameters -/
def BindsX (x qual : Str) (st : Stmt) (fs : List Str) (n : Nat) (ks : List Str) : Prop :=
  ∀ (cl : List (Str × Addr)) (c : Addr) (kV doc pm ctv : Value) (an : Option Addr) (u : Value) (us ws : List Value), us.length = n → ws.length = ks.length →
    bindArgs (PySem.W.fnX "__init__" qual (defArgs st) (defBody st) (defScope st) cl .none kV doc pm an (.ref c) ctv) ⟨u :: us, ks.zip ws⟩ = pure ((psOf fs).zip (u :: gKw us ws))
section
variable {X : Cx} {n : Nat} {x qual : Str} {st : Stmt} {fs ks : List Str} {p pos : Pos} {e : Expr} {es : List Expr} {kws : List Keyword} {t tk : TA}
theorem ebn_of {K : PySem.W.Frag} {P : Program} {mg : Str → Option Value} {cl : List (Str × Addr)} {c : Addr} {C f : Addr} {fd : FuncData} (T : ExCl P K mg x C f (nfOf qual st cl c) fs fd) (hb : BindsX x qual st fs n ks) : EBn K fd fs n ks gKw gKw := by
  obtain ⟨od, sl, kV, doc, pm, ctv, an, rfl, lk⟩ := T.fd_
  exact ⟨fun s u us ws h1 h2 => .of_eq (hb cl c kV doc pm ctv an u us ws h1 h2), fun r1 r2 => r1.append (vals_rev r2)⟩
theorem pe_x0 (E : ClsAt X.prog X.K X.mg x qual st fs) (hr : Room 2 X.A) (hg : Gl X x) (hb : BindsX x qual st fs 0 ks) (hkw : PK X kws tk)
    (hall : (backToKw pos (keywordEach kws X.env)).all (·.1.isSome) = true := by rfl) (hks : (backToKw pos (keywordEach kws X.env)).filterMap (·.1) = ks := by rfl) (hdb : (x == ("__debug__" : Str)) = false := by decide)
    (hpl : ((backTo pos (starEach [] X.env)).any (·.1) || (backToKw pos (keywordEach kws X.env)).any (·.1.isNone)) = false := by rfl) :
    PE X (.Call (.Name x p) [] kws pos) (tExc (He.ga X.K x) fs 0 ks.length gKw tNil tk) := by
  obtain ⟨cl, c, fd, T, _⟩ := E
  exact pe_exc0 T hr hg (ebn_of T hb) hkw hall hks hdb hpl
theorem pe_xN (E : ClsAt X.prog X.K X.mg x qual st fs) (hr : Room 2 X.A) (hg : Gl X x) (hn : n ≤ 1000) (hb : BindsX x qual st fs n ks) (ha : PA X (e :: es) t) (hkw : PK X kws tk)
    (hall : (backToKw pos (keywordEach kws X.env)).all (·.1.isSome) = true := by rfl) (hks : (backToKw pos (keywordEach kws X.env)).filterMap (·.1) = ks := by rfl) (hdb : (x == ("__debug__" : Str)) = false := by decide)
    (he : starEach (e :: es) X.env = (false, eval e X.env) :: starEach es X.env := by rfl) (hpl : ((backTo pos (starEach (e :: es) X.env)).any (·.1) || (backToKw pos (keywordEach kws X.env)).any (·.1.isNone)) = false := by rfl) :
    PE X (.Call (.Name x p) (e :: es) kws pos) (tExc (He.ga X.K x) fs n ks.length gKw t tk) := by
  obtain ⟨cl, c, fd, T, _⟩ := E
  exact pe_excN T hr hg hn (ebn_of T hb) ha hkw hall hks hdb he hpl
end
end Ow
namespace Ow
open PySem PySem.Spec L2 NdefX
section
variable {P : Program} {K : PySem.W.Frag} {mg : Str → Option Value} {x qual : Str} {st : Stmt} {fs : List Str}
theorem ClsAt.xf (h : ClsAt P K mg x qual st fs) : XfC K (He.ga K x) := by
  obtain ⟨_, _, _, T, _⟩ := h
  exact T.xf
theorem ClsAt.no (h : ClsAt P K mg x qual st fs) {y : Str} (hy : y ∈ fs) : PySem.W.findIn K (.ref (He.ga K x)) y = some none := by
  obtain ⟨_, _, _, T, _⟩ := h
  exact T.no y hy
theorem ClsAt.is (h : ClsAt P K mg x qual st fs) : EIs K (He.ga K x) := by
  obtain ⟨_, _, _, _, T⟩ := h
  exact T
end
end Ow

/-! Ow.X1: defs and methods that may raise; calls of them -/
namespace Ow
open PySem PySem.Spec PyProof.Rows L2
def FnAtX (P : Program) (w : World) (K : PySem.W.Frag) (mg : Str → Option Value) (base : Heap) (x : Str) (ps : List Str) (k : Nat) (sp : Sp) : Prop :=
  ∃ f fd, mg x = some (.ref f) ∧ PySem.W.keepIn K (.ref f) = true ∧ Binds K fd ps [] ∧ FnOk P w K mg base (L2.CX P w) k f fd ps sp
def MtAtX (P : Program) (w : World) (K : PySem.W.Frag) (mg : Str → Option Value) (base : Heap) (cls m : Str) (ps : List Str) (k : Nat) (sp : Sp) : Prop :=
  ∃ f fd, Meth K (He.ga K cls) m f ∧ Binds K fd ps [] ∧ FnOk P w K mg base (L2.CX P w) k f fd ps sp
section
variable {P : Program} {w : World} {K : PySem.W.Frag} {mg : Str → Option Value} {base : Heap}
theorem fn_atX {x : Str} {st : Stmt} {N ps : List Str} {k : Nat} {sp : Sp} (T : TopD K mg x st) (S : FnScope N ps (defScope st))
    (hb : ∀ (kV doc pm : Value) (an : Option Addr) (cdv ct : Value) (us : List Value), us.length = ps.length → bindArgs (PySem.W.fnOf x x (defArgs st) (defBody st) (defScope st) .none kV doc pm an cdv ct) ⟨us, []⟩ = pure (ps.zip us))
    (len : ∀ vs H Q E, sp vs H Q E → vs.length = ps.length)
    (hbody : ∀ (f : Addr) (cdv : Value) (A : Around) (outer : List Env) (s : Shared) (H : Hp) (vs : List V) (Q : VK) (E : XK), Room k (A.deeper (envOfC x (defScope st) s.heap.objs.size f cdv)) → sp vs H Q E →
      ∃ t, PSs (cxOf (L2.CX P w) P w K mg base N x (defScope st) f cdv A outer s H E) (defBody st) t ∧ t { nx := fun _ H' => Q .non H', rt := Q } (start N vs) H) : FnAtX P w K mg base x ps (k + 1) sp := by
  obtain ⟨f, fd, F, hm⟩ := T
  exact ⟨f, fd, hm, F.kp, F.bindsN hb, F.ok S len fun cdv A outer s H vs Q E hr h => hbody f cdv A outer s H vs Q E hr h⟩
theorem mt_atX {cls m qual : Str} {st : Stmt} {N ps : List Str} {k : Nat} {sp : Sp} (T : MtD K cls m qual st) (S : FnScope N ps (defScope st))
    (hb : ∀ (kV doc pm : Value) (an : Option Addr) (cdv ct : Value) (us : List Value), us.length = ps.length → bindArgs (PySem.W.fnOf m qual (defArgs st) (defBody st) (defScope st) .none kV doc pm an cdv ct) ⟨us, []⟩ = pure (ps.zip us))
    (len : ∀ vs H Q E, sp vs H Q E → vs.length = ps.length)
    (hbody : ∀ (f : Addr) (cdv : Value) (A : Around) (outer : List Env) (s : Shared) (H : Hp) (vs : List V) (Q : VK) (E : XK), Room k (A.deeper (envOfC qual (defScope st) s.heap.objs.size f cdv)) → sp vs H Q E →
      ∃ t, PSs (cxOf (L2.CX P w) P w K mg base N qual (defScope st) f cdv A outer s H E) (defBody st) t ∧ t { nx := fun _ H' => Q .non H', rt := Q } (start N vs) H) : MtAtX P w K mg base cls m ps (k + 1) sp := by
  obtain ⟨f, fd, F, hm⟩ := T
  exact ⟨f, fd, hm, F.bindsN hb, F.ok S len fun cdv A outer s H vs Q E hr h => hbody f cdv A outer s H vs Q E hr h⟩
theorem FnAtX.mono {x : Str} {ps : List Str} {j k : Nat} {sp : Sp} (F : FnAtX P w K mg base x ps j sp) (h : j ≤ k) : FnAtX P w K mg base x ps k sp := by
  obtain ⟨f, fd, h1, h2, h3, h4⟩ := F
  exact ⟨f, fd, h1, h2, h3, h4.mono h⟩
theorem MtAtX.mono {cls m : Str} {ps : List Str} {j k : Nat} {sp : Sp} (F : MtAtX P w K mg base cls m ps j sp) (h : j ≤ k) : MtAtX P w K mg base cls m ps k sp := by
  obtain ⟨f, fd, h1, h2, h3⟩ := F
  exact ⟨f, fd, h1, h2, h3.mono h⟩
/-- without raising, as a promise of the other kind -/
theorem FnOk.calm {k : Nat} {f : Addr} {fd : FuncData} {ps : List Str} {sp : Sp} (F : FnOk P w K mg base (L2.CX P w) k f fd ps sp) (sp' : Sp) (hs : ∀ vs H Q E, sp' vs H Q E → sp vs H Q E0) (hl : ∀ vs H Q E, sp' vs H Q E → vs.length = ps.length) : FnOk P w K mg base CX0 k f fd ps sp' := by
  refine ⟨hl, fun A outer s H args us vs Q E hr e0 hb r h => ?_⟩
  refine codeAny_mono (F.run A outer s H args us vs Q E0 hr e0 hb r (hs _ _ _ _ h)) fun r s' hq => ?_
  cases r with
  | error e =>
    obtain ⟨_, _, _, _, _, _, _, _, _, _, _, _, z⟩ := hq
    exact z.elim
  | ok fl =>
    cases fl with
    | ret u => exact hq
    | next => exact hq
    | brk => exact hq
    | cont => exact hq
end
section
variable {X : Cx} {cls m x : Str} {p apos pos : Pos} {o e : Expr} {es : List Expr} {t : TA} {ta : TE} {ps : List Str} {k : Nat} {sp : Sp}
theorem pe_fnX {E : XK} (F : FnAtX X.prog X.w X.K X.mg X.base x ps k sp) (hx : Passes (L2.CX X.prog X.w) X E) (hr : Room k X.A) (hg : Gl X x) (ha : PA X (e :: es) t) (hdb : (x == ("__debug__" : Str)) = false := by decide) (he : starEach (e :: es) X.env = (false, eval e X.env) :: starEach es X.env := by rfl)
    (hpl : (backTo pos (starEach es X.env)).any (·.1) = false := by rfl) : PE X (.Call (.Name x p) (e :: es) [] pos) (tCall sp [] E t) := by
  obtain ⟨f, fd, h1, h2, h3, h4⟩ := F
  exact pe_call h4 hr hg h1 h2 h3 .nil hx ha hdb he hpl
theorem pe_mtX {E : XK} {pl : Sem Bool} (F : MtAtX X.prog X.w X.K X.mg X.base cls m ps k sp) (c : Cls X.K (He.ga X.K cls)) (hx : Passes (L2.CX X.prog X.w) X E) (hr : Room k X.A) (ho : PE X o ta) (ha : PA X (e :: es) t)
    (hst : starEach (e :: es) X.env = (false, eval e X.env) :: starEach es X.env := by rfl) (hpl : (backTo pos (starEach es X.env)).any (·.1) = false := by rfl)
    (ht : eval (.Call (.Attribute o m apos) (e :: es) [] pos) X.env = (do
      let ov ← eval o X.env
      standAt apos.atName
      let (f, first) ← holding [ov] (getMethod ov m pl)
      callWith pos f first (backTo pos (starEach (e :: es) X.env)) (backToKw pos (keywordEach [] X.env))) := by rfl) :
    PE X (.Call (.Attribute o m apos) (e :: es) [] pos) (tMeth (He.ga X.K cls) m sp [] E ta t) := by
  obtain ⟨f, fd, h1, h2, h3⟩ := F
  exact pe_meth ho c h1 h3 hr h2 .nil hx ha hst hpl ht
/-- .. where the wish is about the slots, too: within a try -/
def tMethS (C : Addr) (m : Str) (sp : Sp) (E : L2.St → XK) (ta : TE) (t : TA) : TE := fun σ H Q => ta σ H fun x H1 => ∃ a dx fs, x = .ref a ∧ H1 a = some (.ins C dx fs) ∧ fs.lookup m = none ∧ t σ H1 fun vs H2 => sp (x :: vs) H2 Q (E σ)
theorem pe_mtS {W : WX} {pl : Sem Bool} (F : MtAtX X.prog X.w X.K X.mg X.base cls m ps k sp) (c : Cls X.K (He.ga X.K cls)) (tk : Takes X W) (hr : Room k X.A) (ho : PE X o ta) (ha : PA X (e :: es) t)
    (hst : starEach (e :: es) X.env = (false, eval e X.env) :: starEach es X.env := by rfl) (hpl : (backTo pos (starEach es X.env)).any (·.1) = false := by rfl)
    (ht : eval (.Call (.Attribute o m apos) (e :: es) [] pos) X.env = (do
      let ov ← eval o X.env
      standAt apos.atName
      let (f, first) ← holding [ov] (getMethod ov m pl)
      callWith pos f first (backTo pos (starEach (e :: es) X.env)) (backToKw pos (keywordEach [] X.env))) := by rfl) :
    PE X (.Call (.Attribute o m apos) (e :: es) [] pos) (tMethS (He.ga X.K cls) m sp (WE W) ta t) := by
  obtain ⟨f, fd, hm, hb, F⟩ := F
  refine ⟨fun pins s σ H Q I h => ?_⟩
  refine PySem.W.methodCall_KW (pl := pl) (thn (ho.run pins s σ H _ I h) fun u s1 ⟨x, H1, I1, rx, a, dx, fs, ex, ea, l, q⟩ => ?_) ht
  subst ex
  obtain rfl : u = Value.ref a := rx
  refine getmeth_ok I1 ea c hm l ?_
  refine PySem.W.callWith_K (first := [.ref a]) (h₀ := X.base) I.ok.mod.kin hm.kp (thn (ha.run pos pins s1 σ H1 _ I1 q) fun us s2 ⟨vs, H2, I2, r, q2⟩ => ⟨I2.kIn, ?_⟩) hst hpl
  exact run_fnS (E := WE W) (us := .ref a :: us) (vs := .ref a :: vs) F hr hb (passAt tk σ) I2 (.cons rfl r) q2
/-- C(..) -/
theorem pe_mkX {E : XK} (F : MtAtX X.prog X.w X.K X.mg X.base cls "__init__" ps k sp) (c : ∃ f, Mk X.K (He.ga X.K cls) f) (hx : Passes (L2.CX X.prog X.w) X E) (hr : Room (k + 1) X.A) (hg : Gl X cls) (hm : X.mg cls = some (.ref (He.ga X.K cls))) (ha : PA X (e :: es) t)
    (hdb : (cls == ("__debug__" : Str)) = false := by decide) (he : starEach (e :: es) X.env = (false, eval e X.env) :: starEach es X.env := by rfl) (hpl : (backTo pos (starEach es X.env)).any (·.1) = false := by rfl) :
    PE X (.Call (.Name cls p) (e :: es) [] pos) (tMake (He.ga X.K cls) sp [] E t) := by
  obtain ⟨f, fd, h1, h2, h3⟩ := F
  obtain ⟨f', M⟩ := c
  have e1 : f' = f := by
    have z := M.init.symm.trans h1.at_
    cases z
    rfl
  subst e1
  exact pe_make M h3 hr hg hm h2 .nil hx ha hdb he hpl
def tMakeS (C : Addr) (sp : Sp) (E : L2.St → XK) (t : TA) : TE := fun σ H Q => t σ H fun vs H1 => ∀ x dx, H1 x = none → H1 dx = none → dx ≠ x →
  sp (.ref x :: vs) (upd (upd H1 dx (.own x)) x (.ins C dx [])) (fun v H2 => v = .non ∧ Q (.ref x) H2) (E σ)
theorem pe_mkS {W : WX} (F : MtAtX X.prog X.w X.K X.mg X.base cls "__init__" ps k sp) (c : ∃ f, Mk X.K (He.ga X.K cls) f) (tk : Takes X W) (hr : Room (k + 1) X.A) (hg : Gl X cls) (hm : X.mg cls = some (.ref (He.ga X.K cls))) (ha : PA X (e :: es) t)
    (hdb : (cls == ("__debug__" : Str)) = false := by decide) (he : starEach (e :: es) X.env = (false, eval e X.env) :: starEach es X.env := by rfl) (hpl : (backTo pos (starEach es X.env)).any (·.1) = false := by rfl) :
    PE X (.Call (.Name cls p) (e :: es) [] pos) (tMakeS (He.ga X.K cls) sp (WE W) t) := by
  obtain ⟨f, fd, h1, hb, F⟩ := F
  obtain ⟨f', M⟩ := c
  have e1 : f' = f := by
    have z := M.init.symm.trans h1.at_
    cases z
    rfl
  subst e1
  refine ⟨fun pins s σ H Q I h => ?_⟩
  refine wpAny_Call_Name_kw (ld_glob I hg hm ?_ hdb)
  refine PySem.W.callWith_K (h₀ := X.base) I.ok.mod.kin M.kp (thn (ha.run pos pins s σ H _ I h) fun us s1 ⟨vs, H1, I1, r, q⟩ => ⟨I1.kIn, ?_⟩) he hpl
  have hq := q (s1.heap.objs.size + 1) s1.heap.objs.size (I1.hok.fresh (Nat.le_succ _)) (I1.hok.fresh (Nat.le_refl _)) (Nat.ne_of_lt (Nat.lt_succ_self _))
  have I2 := Inv.made (C := He.ga X.K cls) I1
  have r2 : Vals (V.ref (s1.heap.objs.size + 1) :: vs) (Value.ref (s1.heap.objs.size + 1) :: us) := .cons rfl r
  have hl : (Value.ref (s1.heap.objs.size + 1) :: us).length = ps.length := by
    have e := r2.length
    rw [F.len _ _ _ _ hq] at e
    exact e.symm
  have b := hb _ (Value.ref (s1.heap.objs.size + 1) :: us) I2.kIn (by rw [List.append_nil]; exact hl)
  rw [List.append_nil] at b
  refine wpAny_call (make_map (f := f') I1.kIn M.makes M.init (beq_iff_eq.mp M.fn) (codeAny_mono (F.run _ X.stack _ _ ⟨Value.ref (s1.heap.objs.size + 1) :: us, []⟩ (Value.ref (s1.heap.objs.size + 1) :: us) _ _ (WE W σ) (hr.make (He.ga X.K cls) us [])
    (I2.env0.make (He.ga X.K cls) us []) b r2 hq) fun r s' hq' => ?_))
  cases r with
  | error e => exact passAt tk σ pins _ _ e s' I2 hq'
  | ok fl =>
    cases fl with
    | ret u =>
      obtain ⟨v, H', I3, rv, ev, q3⟩ := I2.after hq'
      subst ev
      exact ⟨rv, ⟨V.ref (s1.heap.objs.size + 1), H', I3, rfl, q3⟩⟩
    | next => exact False.elim hq'
    | brk => exact False.elim hq'
    | cont => exact False.elim hq'
end
/-! Ow.X2: raise C(e, ..) of an exception class of the text -/
section
variable {X : Cx} {x qual : Str} {st : Stmt} {fs : List Str} {p pos pos' : Pos} {e : Expr} {es : List Expr} {t : TA}
theorem pmk_x (hB : ClsAt X.prog X.K X.mg x qual st fs) (hb : BindsX x qual st fs fs.length []) (hr : Room 2 X.A) (hg : Gl X x) (ha : PA X (e :: es) t)
    (hdb : (x == ("__debug__" : Str)) = false := by decide) (he : starEach (e :: es) X.env = (false, eval e X.env) :: starEach es X.env := by rfl) (hpl : (backTo pos (starEach es X.env)).any (·.1) = false := by rfl) :
    PMk X (.Call (.Name x p) (e :: es) [] pos) (tMkO (He.ga X.K x) (spIni (He.ga X.K x) fs) [] t) := by
  obtain ⟨cl, c, fd, T, _⟩ := hB
  have F1 : FnOk X.prog X.w X.K X.mg X.base CX0 1 (He.ma X.K (He.ga X.K x) "__init__") fd (psOf fs) (spIni (He.ga X.K x) fs) := T.ok
  refine pmk_oex (CX := CX0) T.k.oex T.k.ini T.ty F1 hr ?_ .nil pass0 hg T.mgx ha hdb he hpl
  obtain ⟨od, sl, kV, doc, pm, ctv, an, rfl, lk⟩ := T.fd_
  intro s us hk hl
  rw [List.append_nil] at hl ⊢
  cases us with
  | nil => cases hl
  | cons u us =>
    have q := hb cl c kV doc pm ctv an u us [] (by simpa using hl) rfl
    have e1 : gKw us ([] : List Value) = us := by simp [gKw]
    rw [e1] at q
    exact .of_eq q
/-- the reading's end: the exception's dict is new -/
theorem rx_ {C : Addr} {vs : List V} {H1 : Hp} {Q : XK} (hl : vs.length = fs.length) (hf : fs ≠ []) (hm : fs.length ≤ 1000) (h : ∀ d H2, H1 d = none → Same H1 H2 → H2 d = some (.xd (fs.zip vs).reverse) → Q (.ref C) (some d) H2) :
    vs.length ≤ 1000 ∧ ∀ a, H1 a = none → spIni C fs (.ref a :: (vs ++ [])) (upd H1 a (exo a C none)) (fun v H2 => v = .non ∧ ∃ (d : Addr) (fs : List (Str × V)), H2 a = some (exo a C (some d)) ∧ H2 d = some (exd d fs) ∧ H1 d = none ∧ Q (.ref C) (some d) (upd (del H2 a) d (.xd fs))) (fun _ _ _ => False) := by
  refine ⟨by omega, fun a ha => ⟨a, vs, by rw [List.append_nil], hl, upd_same, fun z => absurd z hf, fun _ dx hdx ne => ⟨rfl, dx, (fs.zip vs).reverse, upd_same, ?_, ?_, ?_⟩⟩⟩
  · rw [upd_ne ne, upd_same]
  · rw [upd_ne ne] at hdx
    exact hdx
  · rw [upd_ne ne] at hdx
    refine h dx _ hdx (fun b o q => ?_) upd_same
    have n1 : b ≠ dx := ne_of_none q hdx
    have n2 : b ≠ a := ne_of_none q ha
    rw [upd_ne n1, del_ne n2, upd_ne n2, upd_ne n1, upd_ne n2]
    exact q
end
/-! Ow.X3: several except clauses with names -/
def wAsN (K : PySem.W.Frag) (Wout : WX) (D : Ends) : List (Value × Nat × (Addr → Value → Option Addr → TS)) → WX
  | [] => Wout
  | (c, i, ts) :: r => fun cls d σ H => ∃ b, PySem.W.exmOne K cls c = some b ∧ (b = true → ∀ a, H a = none → ts a cls d { nx := fun σ' H' => D.nx (σ'.set i none) H', rt := D.rt, bk := fun σ' H' => D.bk (σ'.set i none) H', ct := fun σ' H' => D.ct (σ'.set i none) H' } (σ.set i (some (.ref a))) H) ∧
      (b = false → wAsN K Wout D r cls d σ H)
inductive HdsN (X : Cx) : List ExceptHandler → List (Value × Nat × (Addr → Value → Option Addr → TS)) → Prop
  | nil : HdsN X [] []
  | cons {x n : Str} {c : Value} {i : Nat} {ts : Addr → Value → Option Addr → TS} {b0 : Stmt} {suite : List Stmt} {np pos' : Pos} {hds : List ExceptHandler} {l : List (Value × Nat × (Addr → Value → Option Addr → TS))} (hc : Names X x c) (hi : X.N[i]? = some n) (hln : X.env.kindOf n = some .local)
      (hsu : ∀ (a : Addr) (oe : Obj) (cls : Value) (d : Option Addr) (pn : List (Addr × Obj)), Zc cls d oe → (∃ vs, oe.data = .fields vs) → PSs (X.suite a ((a, oe) :: pn)) (b0 :: suite) (ts a cls d)) (r : HdsN X hds l) :
      HdsN X (.ExceptHandler (some (.Name x np)) (some n) (b0 :: suite) pos' :: hds) ((c, i, ts) :: l)
section
variable {X : Cx} {body : List Stmt} {h0 : ExceptHandler} {hds : List ExceptHandler} {l : List (Value × Nat × (Addr → Value → Option Addr → TS))} {pos : Pos} {tb : WX → TS} {Wout : WX}
theorem ps_try_asN (hs : X.stack = X.env :: X.outer) (hf : X.env.frame = some X.env.locals) (hN : X.N.Nodup) (tk : Takes X Wout)
    (hb : ∀ (W : WX) (pn : List (Addr × Obj)) (xe : Value → Shared → Prop), Takes (X.tr pn xe) W → PassesOwn (model X.prog X.w) X.A X.env xe → PSs (X.tr pn xe) body (tb W))
    (hh : HdsN X (h0 :: hds) l) : PS X (.Try body (h0 :: hds) [] [] pos) (fun D σ H => tb (wAsN X.K Wout D l) D σ H) := by
  refine ⟨fun pins s σ H D I h => ?_⟩
  have ok := I.ok
  have hfr : X.A.frames = some (X.env :: X.outer) := by rw [ok.frames, hs]
  refine wpAny_Try_except ?_
  refine wpAny_mono ((hb (wAsN X.K Wout D l) (X.pn ++ pins) (fun e s₁ => wpAny (model X.prog X.w) X.A (noteFrame e X.env) (fun _ s₂ => wpAny (model X.prog X.w) X.A (setFlight e none) (fun _ s₃ =>
    wpAny (model X.prog X.w) X.A (handleBy e X.env (h0 :: hds)) (SP X pins D) X.xe s₃) X.xe s₂) X.xe s₁) (fun u s' xx => ?_) PassesOwn.looking).run [] s σ H D (I.toTry _) h) (fun f s1 hsp => ?_) (fun e s1 he => he)
  · obtain ⟨a, B, sI, pins', σ', H', cls, d, rfl, J', nb, up, sky, na, os, ag, w⟩ := xx
    have J : Inv X pins σ' H' sI := J'.ofTry ok
    have sky' : Sky B (X.env :: X.outer) a (Zc cls d) X.env.locals s'.heap := by rw [← hs]; exact sky
    show wpAny (model X.prog X.w) X.A (noteFrame (.ref a) X.env) _ _ _
    refine Sky.land Zc.steady hfr hf sky' fun h3 fl3 up3 => ?_
    have J3 : Inv X pins σ' H' { s' with heap := h3 } := J.landed nb fl3.1 (up.trans up3) os ag
    obtain ⟨oe3, vs3, he3, hz3, hd3⟩ := fl3.there
    have notFr : ∀ {h : Heap} {o : Obj} {vs : Array Value}, h.FunFrames B (X.env :: X.outer) → h.get? a = some o → o.data = .fields vs → a ∉ frs (X.env :: X.outer) := fun {h o vs} ff e dd hm => by
      obtain ⟨_, o', e', hnf⟩ := ff.mem hm
      rw [e] at e'; cases e'
      exact hnf _ dd
    have nfr := notFr fl3.2.2.1 he3 hd3
    have nL : a ≠ X.env.locals := fun z => nfr (List.mem_filterMap.mpr ⟨X.env, List.mem_cons_self, by rw [hf, z]⟩)
    have nF : a ∉ X.fs := fun hm => by
      obtain ⟨e, he, q⟩ := List.mem_filterMap.mp hm
      exact nfr (List.mem_filterMap.mpr ⟨e, List.mem_cons_of_mem _ he, q⟩)
    have S3 := J3.suite he3 hd3 na nL nF
    have go : ∀ {hds' : List ExceptHandler} {l' : List (Value × Nat × (Addr → Value → Option Addr → TS))}, HdsN X hds' l' → wAsN X.K Wout D l' cls d σ' H' →
        wpAny (model X.prog X.w) X.A (handleBy (.ref a) X.env hds') (SP X pins D) X.xe { s' with heap := h3 } := by
      intro hds' l' hk
      induction hk with
      | nil =>
        intro w
        refine wpAny_handleBy_nil ?_
        obtain ⟨k1, k2, k3, oe, vs, T, oT, ts', he, hz, hd, h1, hr⟩ := id fl3
        unfold PySem.passOn
        refine wpAny_bind (wpAny_field he hd h1 ?_)
        rw [if_neg (show ¬ ((Value.ref T == Value.none) = true) from by simp)]
        have fin : wpAny (model X.prog X.w) X.A (setFlight (.ref a) X.env.frame) (fun _ s4 => wpAny (model X.prog X.w) X.A (throw (.ref a) : Sem Flow) (SP X pins D) X.xe s4) X.xe { s' with heap := h3 } := by
          rw [hf]
          refine HandSPX.setFlight_upZ fl3 fun h4 hh4 up4 => wpAny_throw (tk _ _ ?_)
          exact ⟨a, B, sI, pins, σ', H', cls, d, rfl, J, nb, (up.trans up3).trans up4, .inr (.inr (by rw [hs]; exact hh4)), na, os, ag, w⟩
        first
          | exact wpAny_bind (wpAny_pure (wpAny_bind fin))
          | exact wpAny_bind fin
      | @cons x n c i ts b0 suite np pos' hds2 l2 hc hi hln hsu r ih =>
        intro w
        have hloc : Loc X.env.scope n := .inl hln
        obtain ⟨b, hb1, hyes, hno⟩ := w
        refine wpAny_handleBy_cons (codeAny_handlers_test ?_) (by intro q; cases q)
        have LT : PySem.W.Looks (model X.prog X.w) h3 (typeOf (.ref a)) cls := fun A Q E s k q => wpAny_typeOf_ref (k _ _ he3) (by rw [hz3.1]; exact q)
        have LM := PySem.W.exm_one (M := model X.prog X.w) (J3.kIn) LT hb1
        have test : ∀ {Q : Value → Shared → Prop} {E : Value → Shared → Prop}, Q c { s' with heap := h3 } → wpAny (model X.prog X.w) (X.A.mark (some (.ref a))) (eval (.Name x np) X.env) Q E { s' with heap := h3 } := fun {Q E} q => by
          obtain ⟨hg, hdbg, hm | ⟨hm, hv, hnn⟩⟩ := hc
          · exact ld_glob (X := X.suite a ((a, oe3) :: (X.pn ++ pins))) S3 hg hm q hdbg
          · exact ld_blt (X := X.suite a ((a, oe3) :: (X.pn ++ pins))) S3 hg hm hv q hnn hdbg
        refine test (LM.here ?_)
        cases b with
        | true =>
          refine codeAny_handlers_suite_as ?_
          refine HandSPX.lands_againZ fl3 fun h4 fl4 up4 => ?_
          have J4 : Inv X pins σ' H' { s' with heap := h4 } := J.landed nb fl4.1 ((up.trans up3).trans up4) os ag
          obtain ⟨oe4, vs4, he4, hz4, hd4⟩ := fl4.there
          have S4 := J4.suite he4 hd4 na nL nF
          refine store_ok (X := X.suite a ((a, oe4) :: (X.pn ++ pins))) (v := .ref a) S4 hN hi hloc rfl (fun s5 S5 => ?_) (.inr hln)
          refine wpAny_mono ((hsu a oe4 cls d (X.pn ++ pins) hz4 ⟨_, hd4⟩).run [] s5 _ H' _ S5 (hyes rfl a na)) (fun f s6 hsp => ?_) (fun _ _ z => False.elim z)
          have end_ : ∀ {σ6 : L2.St} {H6 : Hp} {Q : Shared → Prop}, Inv (X.suite a ((a, oe4) :: (X.pn ++ pins))) [] σ6 H6 s6 → (∀ s7, Inv X pins (σ6.set i none) H6 s7 → Q s7) →
              wpAny (model X.prog X.w) X.A (do bindName X.env n .none; unbindBehindTheSuite X.env n pos') (fun _ s7 => Q s7) X.xe s6 := fun {σ6 H6 Q} S6 hq => gone_ok (S6.unsuite ok) hN hi hln hq
          cases f with
          | next =>
            obtain ⟨σ6, H6, S6, q6⟩ := hsp
            exact end_ S6 fun s7 J7 => ⟨_, _, J7, q6⟩
          | brk =>
            obtain ⟨σ6, H6, S6, q6⟩ := hsp
            exact end_ S6 fun s7 J7 => ⟨_, _, J7, q6⟩
          | cont =>
            obtain ⟨σ6, H6, S6, q6⟩ := hsp
            exact end_ S6 fun s7 J7 => ⟨_, _, J7, q6⟩
          | ret u =>
            obtain ⟨v6, σ6, H6, S6, r6, q6⟩ := hsp
            exact end_ S6 fun s7 J7 => ⟨_, _, _, J7, r6, q6⟩
        | false =>
          show wpAny _ X.A (handleBy (.ref a) X.env hds2) _ _ _
          exact ih (hno rfl)
    exact go hh w
  · cases f with
    | next =>
      obtain ⟨σ', H', J', q⟩ := hsp
      exact wpAny_execs_nil ⟨σ', H', J'.ofTry ok, q⟩
    | brk =>
      obtain ⟨σ', H', J', q⟩ := hsp
      exact ⟨σ', H', J'.ofTry ok, q⟩
    | cont =>
      obtain ⟨σ', H', J', q⟩ := hsp
      exact ⟨σ', H', J'.ofTry ok, q⟩
    | ret u =>
      obtain ⟨v, σ', H', J', r, q⟩ := hsp
      exact ⟨v, σ', H', J'.ofTry ok, r, q⟩
end
/-! Ow.X4: a caught exception: isinstance(e, T) -/
def rXis (K : PySem.W.Frag) (a : Addr) (cls : Value) (d : Option Addr) : List V → Hp → VK → Prop := fun xs H Q => ∃ (C dd : Addr) (fs : List (Str × V)) (c : V) (cv : Value) (b : Bool), xs = [.ref a, c] ∧ cls = .ref C ∧ d = some dd ∧ H dd = some (.xd fs) ∧ EIs K C ∧ (∀ u, RelV c u → u = cv) ∧ PySem.W.kitOne K (.ref C) cv = some b ∧ Q (.bl b) H
theorem call_xis {X : Cx} {a : Addr} {oe : Obj} {cls : Value} {d : Option Addr} {pn : List (Addr × Obj)} (hz : Zc cls d oe) (hf : ∃ vs, oe.data = .fields vs) : CallR (X.suite a ((a, oe) :: pn)) (.builtin "isinstance") (rXis X.K a cls d) := by
  intro pins s σ H xs us Q I r h
  obtain ⟨C, dd, fs, c, cv, b, rfl, rfl, rfl, ed, T, hcv, e, q⟩ := h
  cases r with
  | cons rx rr =>
    cases rr with
    | cons rt rr =>
      cases rr
      cases rx
      have ec := hcv _ rt
      subst ec
      obtain ⟨ha, _⟩ := I.pin (a, oe) (List.mem_append_left _ List.mem_cons_self)
      obtain ⟨vs, hd⟩ := hf
      have hx : ObjOk X.prog X.w H s.heap dd (.xd fs) := I.hok dd _ ed
      obtain ⟨mA, hns, hr⟩ := hx
      obtain ⟨od, ho, _⟩ := lookIn_ns hns
      have J : PySem.W.InstAt s.heap a oe C (some od) := ⟨ha, hz.1, by unfold PySem.W.notCls; rw [hd] <;> rfl, by rw [hz.2]; exact ho⟩
      exact PySem.W.kia_one (PySem.W.kitx_exc (ox := oe) (od := some od) T.cl T.ga T.gg T.sb T.kc T.sg T.tk T.mo) I.kIn J e (fun z => nomatch z) fun tk => ⟨.bl b, H, I.kept (t' := tk) fun _ _ z => z, rfl, q⟩
end Ow
/-! Ow.X5: the same with the written part said (within a try's body) -/
namespace Ow
open PySem PySem.Spec PyProof.Rows L2
section
variable {X : Cx} {K : PySem.W.Frag} {cls m x : Str} {p apos pos : Pos} {o e : Expr} {es : List Expr} {t : TA} {ta : TE} {ps : List Str} {k : Nat} {sp : Sp}
theorem pe_mtSK {W : WX} {pl : Sem Bool} (F : MtAtX X.prog X.w K X.mg X.base cls m ps k sp) (c : Cls K (He.ga K cls)) (tk : Takes X W) (hr : Room k X.A) (ho : PE X o ta) (ha : PA X (e :: es) t) (hK : X.K = K := by rfl)
    (hst : starEach (e :: es) X.env = (false, eval e X.env) :: starEach es X.env := by rfl) (hpl : (backTo pos (starEach es X.env)).any (·.1) = false := by rfl)
    (ht : eval (.Call (.Attribute o m apos) (e :: es) [] pos) X.env = (do
      let ov ← eval o X.env
      standAt apos.atName
      let (f, first) ← holding [ov] (getMethod ov m pl)
      callWith pos f first (backTo pos (starEach (e :: es) X.env)) (backToKw pos (keywordEach [] X.env))) := by rfl) :
    PE X (.Call (.Attribute o m apos) (e :: es) [] pos) (tMethS (He.ga K cls) m sp (WE W) ta t) := by
  subst hK
  exact pe_mtS F c tk hr ho ha hst hpl ht
theorem pe_mkSK {W : WX} (F : MtAtX X.prog X.w K X.mg X.base cls "__init__" ps k sp) (c : ∃ f, Mk K (He.ga K cls) f) (tk : Takes X W) (hr : Room (k + 1) X.A) (hg : Gl X cls) (hm : X.mg cls = some (.ref (He.ga K cls))) (ha : PA X (e :: es) t) (hK : X.K = K := by rfl)
    (hdb : (cls == ("__debug__" : Str)) = false := by decide) (he : starEach (e :: es) X.env = (false, eval e X.env) :: starEach es X.env := by rfl) (hpl : (backTo pos (starEach es X.env)).any (·.1) = false := by rfl) :
    PE X (.Call (.Name cls p) (e :: es) [] pos) (tMakeS (He.ga K cls) sp (WE W) t) := by
  subst hK
  exact pe_mkS F c tk hr hg hm ha hdb he hpl
end
theorem call_xisK {X : Cx} {K : PySem.W.Frag} {a : Addr} {oe : Obj} {cls : Value} {d : Option Addr} {pn : List (Addr × Obj)} (hz : Zc cls d oe) (hf : ∃ vs, oe.data = .fields vs) (hK : X.K = K := by rfl) : CallR (X.suite a ((a, oe) :: pn)) (.builtin "isinstance") (rXis K a cls d) := by
  subst hK
  exact call_xis hz hf
end Ow
namespace Ow
open PySem PySem.Spec PyProof.Rows L2
section
variable {X : Cx} {K : PySem.W.Frag} {cls m x : Str} {p apos pos : Pos} {o e : Expr} {es : List Expr} {t : TA} {ta : TE} {ps : List Str} {k : Nat} {sp : Sp}
theorem pe_mtK {pl : Sem Bool} (F : MtAt X.prog X.w K X.mg X.base cls m ps k sp) (c : Cls K (He.ga K cls)) (hr : Room k X.A) (ho : PE X o ta) (ha : PA X (e :: es) t) (hK : X.K = K := by rfl)
    (hst : starEach (e :: es) X.env = (false, eval e X.env) :: starEach es X.env := by rfl) (hpl : (backTo pos (starEach es X.env)).any (·.1) = false := by rfl)
    (ht : eval (.Call (.Attribute o m apos) (e :: es) [] pos) X.env = (do
      let ov ← eval o X.env
      standAt apos.atName
      let (f, first) ← holding [ov] (getMethod ov m pl)
      callWith pos f first (backTo pos (starEach (e :: es) X.env)) (backToKw pos (keywordEach [] X.env))) := by rfl) :
    PE X (.Call (.Attribute o m apos) (e :: es) [] pos) (tMeth (He.ga K cls) m sp [] E0 ta t) := by
  subst hK
  exact pe_mt F c hr ho ha hst hpl ht
end
end Ow

/-! Ow.Y1: how many texts a tuple has: len(set(t)) -/
namespace Ow
open PySem PySem.Spec PyProof.Rows L2
/-- the texts that were met, each once -/
def metS (xs : List Str) : List Str := xs.foldl (fun a x => if x ∈ a then a else a ++ [x]) []
theorem metS_snoc (xs : List Str) (x : Str) : metS (xs ++ [x]) = if x ∈ metS xs then metS xs else metS xs ++ [x] := by
  unfold metS
  rw [List.foldl_append]
  rfl
theorem mem_metS {xs : List Str} {y : Str} : y ∈ metS xs ↔ y ∈ xs := by
  suffices h : ∀ n (xs : List Str), xs.length = n → (y ∈ metS xs ↔ y ∈ xs) from h _ xs rfl
  intro n
  induction n with
  | zero =>
    intro xs h
    rw [List.length_eq_zero_iff.mp h]
    exact Iff.rfl
  | succ n ih =>
    intro xs h
    rcases List.eq_nil_or_concat xs with rfl | ⟨ys, x, rfl⟩
    · cases h
    · rw [List.concat_eq_append] at *
      have hl : ys.length = n := by simpa using h
      rw [metS_snoc]
      split
      · rename_i hm
        rw [ih ys hl, List.mem_append, List.mem_singleton]
        exact ⟨.inl, fun z => z.elim id fun e => e ▸ (ih ys hl |>.mp (by rw [e]; exact hm))⟩
      · rw [List.mem_append, List.mem_append, ih ys hl]
theorem metS_len (xs : List Str) : (metS xs).length ≤ xs.length := by
  suffices h : ∀ n (xs : List Str), xs.length = n → (metS xs).length ≤ xs.length from h _ xs rfl
  intro n
  induction n with
  | zero =>
    intro xs h
    rw [List.length_eq_zero_iff.mp h]
    exact Nat.le_refl _
  | succ n ih =>
    intro xs h
    rcases List.eq_nil_or_concat xs with rfl | ⟨ys, x, rfl⟩
    · cases h
    · rw [List.concat_eq_append] at *
      have hl : ys.length = n := by simpa using h
      have := ih ys hl
      rw [metS_snoc, List.length_append]
      split
      · simp; omega
      · rw [List.length_append]; simp; omega
def hasS (xs : List Str) (i : Nat) (k : Str) : Bool := decide (k ∈ xs.take i)
def numS (xs : List Str) (i : Nat) : Nat := (metS (xs.take i)).length
theorem take_next {xs : List Str} {i : Nat} {x : Str} (h : xs[i]? = some x) : xs.take (i + 1) = xs.take i ++ [x] := by
  rw [List.take_add_one, h]
  rfl
section
variable {prog : Program} {w : World} {A : Around} {R : Result → Shared → Prop} {I : Addr} {fp wr : List Addr} {G : Array GenState → Array GenState → Prop} {n : Nat} {P : Nat → Value → Prop} {St : Nat → Shared → Prop}
theorem upd_strs (W : WalksS prog w A.in1 I fp wr G n P St) (S : Addr) (hSf : S ∉ fp) (xs : List Str) (hn1 : n < 1000)
    (hval : ∀ i v, P i v → ∃ x t, xs[i]? = some x ∧ v = .str x t) :
    ∀ (k i : Nat) (s : Shared), n - i = k → i ≤ n → St i s → s.heap.SetOf (PySem.strKind prog w) S (hasS xs i) (numS xs i) →
      (∀ s', Moved (S :: wr) G s s' → s'.heap.SetOf (PySem.strKind prog w) S (hasS xs n) (numS xs n) → R (.ok (.ret .none)) s') →
      codeAny (model prog w) A (.builtin "set.update.loop" ⟨[.ref S, .ref I], []⟩) R s := by
  have hSw : S ∉ wr := fun h => hSf (W.sub _ h)
  have hsub : ∀ b ∈ wr, b ∈ S :: wr := fun b hb => List.mem_cons_of_mem _ hb
  have keep : ∀ {s s' : Shared} {i : Nat}, Moved wr G s s' → s.heap.SetOf (PySem.strKind prog w) S (hasS xs i) (numS xs i) → s'.heap.SetOf (PySem.strKind prog w) S (hasS xs i) (numS xs i) := fun hm hS => by
    obtain ⟨o, es, ep, t, ho, rest⟩ := hS
    exact ⟨o, es, ep, t, hm.heap S _ hSw ho, rest⟩
  intro k
  induction k with
  | zero =>
    intro i s hk hi hst hS hR
    have hin : i = n := by omega
    subst hin
    refine codeAny_builtin PyProof.Rows.F.entry_set_update_loop ?_
    rw [Around.under_plainId PyProof.Rows.F.plain_set_update_loop _]
    show wpAny _ A.in1 (pyNext (.ref I) >>= _) _ _ s
    refine wpAny_bind (W.done s _ _ hst fun s' hm => ?_)
    show wpAny _ A.in1 (ret Value.none) _ _ s'
    exact wpAny_pure (hR s' (hm.mono hsub) (keep hm hS))
  | succ k ih =>
    intro i s hk hi hst hS hR
    have hlt : i < n := by omega
    refine codeAny_builtin PyProof.Rows.F.entry_set_update_loop ?_
    rw [Around.under_plainId PyProof.Rows.F.plain_set_update_loop _]
    show wpAny _ A.in1 (pyNext (.ref I) >>= _) _ _ s
    refine wpAny_bind (W.item i s _ _ hlt hst fun v s' hP hst' hm => ?_)
    obtain ⟨x, t, hx, rfl⟩ := hval i v hP
    have hS' := keep hm hS
    show wpAny _ A.in1 (holding [Value.str x t] (setAdd S (.str x t)) >>= _) _ _ s'
    refine wpAny_bind (wpAny_holding ?_)
    unfold setAdd
    refine wpAny_holding ?_
    refine wpAny_bind ((PySem.strKind prog w).pyHash (k := x) (strKind_is _ _ _ _) ?_)
    have hno : numS xs i ≤ i := Nat.le_trans (metS_len _) (by rw [List.length_take]; omega)
    refine wpAny_setAddHashed_of (knd := PySem.strKind prog w) (s := { s' with toks := s'.toks + 1 }) (strKind_is _ _ _ _) rfl hS' (by unfold scanBound; omega) fun h' hsb hS2 => ?_
    have hSi : h'.SetOf (PySem.strKind prog w) S (hasS xs (i + 1)) (numS xs (i + 1)) := by
      refine SetOf_congr hS2 (fun k' => ?_) ?_
      · show (hasS xs i k' || decide (k' = x)) = hasS xs (i + 1) k'
        unfold hasS
        rw [take_next hx]
        by_cases e : k' = x
        · rw [decide_eq_true e, Bool.or_true, decide_eq_true (List.mem_append_right _ (by rw [e]; exact List.mem_cons_self ..))]
        · rw [decide_eq_false e, Bool.or_false]
          congr 1
          rw [List.mem_append, List.mem_singleton]
          exact propext ⟨.inl, fun z => z.elim id fun e' => absurd e' e⟩
      · unfold numS hasS
        rw [take_next hx, metS_snoc]
        by_cases e : x ∈ xs.take i
        · rw [if_pos (mem_metS.mpr e), if_pos (decide_eq_true e)]
        · rw [if_neg (fun z => e (mem_metS.mp z)), if_neg (by rw [decide_eq_false e]; exact Bool.false_ne_true), List.length_append]
          rfl
    refine wpAny_pure ⟨plainId_quiet PyProof.Rows.F.plain_set_update_loop _, ih (i + 1) _ (by omega) hlt (W.frame _ s' _ _ hst' (Nat.le_succ _) fun b hb o e => ?_) hSi fun s'' hm'' hS'' => ?_⟩
    · rw [hsb.2 b (fun h : b = S => hSf (by rw [← h]; exact hb))]; exact e
    · refine hR s'' (Moved.trans W.gtrans ((hm.mono hsub).then_heap (Nat.le_succ _) fun b o hb e => ?_) hm'') hS''
      rw [hsb.2 b (fun h : b = S => hb (by rw [h]; exact List.mem_cons_self))]; exact e
end
end Ow
namespace Ow
open PySem PySem.Spec PyProof.Rows L2
/-- a new set -/
abbrev newS (led : Bool) : Obj := { cls := .type "set", dict := none, data := .set #[] 0 (.fresh 0 0 led) }
section
variable {prog : Program} {w : World} {A : Around} {E : Value → Shared → Prop} {s : Shared}
theorem set_of_strs {l : Addr} {items : Array Value} {xs : List Str} {Q : Value → Shared → Prop} (hh : A.handled = none) (hl : s.heap.IsTuple l items) (hi : StrsAre items.toList xs) (hn1 : xs.length < 1000)
    (h : ∀ (h' : Heap) (tk : Nat), h'.SetOf (PySem.strKind prog w) s.heap.objs.size (fun k => decide (k ∈ xs)) (metS xs).length →
      (∀ b o, b < s.heap.objs.size → s.heap.get? b = some o → h'.get? b = some o) → Q (.ref s.heap.objs.size) { s with heap := h', toks := tk }) :
    wpAny (model prog w) A (call (.type "set") [.ref l]) Q E s := by
  have hsz : xs.length = items.size := by rw [← StrsAre.len_eq hi, Array.length_toList]
  have efin : ∀ h' : Heap, h'.SetOf (PySem.strKind prog w) s.heap.objs.size (hasS xs items.size) (numS xs items.size) → h'.SetOf (PySem.strKind prog w) s.heap.objs.size (fun k => decide (k ∈ xs)) (metS xs).length := fun h' z => by
    refine SetOf_congr z (fun k => ?_) ?_
    · show decide (k ∈ xs.take items.size) = _
      rw [← hsz, List.take_length]
    · show (metS (xs.take items.size)).length = _
      rw [← hsz, List.take_length]
  obtain ⟨c, tl, hmro⟩ := PySem.F.called_set.mro
  have hmade := PySem.F.called_set.made
  have hsub := PySem.F.called_set.sub
  refine wpAny_call (codeAny_of_tree ?_)
  show wpAny _ _ (callAny (.type "set") _) _ _ _
  refine wpAny_pure ⟨Code.quiet_builtin _ (by decide +kernel), codeAny_builtin PySem.F.entry_type_call ?_⟩
  rw [Around.under_plain (weight_type_call_type "set" [.ref l] []) rfl]
  have h1 := PySem.F.called_set.notType
  have h2 := PySem.F.called_set.canCreate
  have hct := PySem.F.typeCall_set_1 (.ref l)
  repeat (any_goals (first | assumption | wp_step))
  refine codeAny_mono (code_set_new_1 (.ref l) (E := E) (Q₁ := fun obj s₁ => ∃ led : Bool, obj = .ref s.heap.objs.size ∧ s₁ = { s with heap := s.heap.push (newS led) }) fun led => ⟨led, rfl, rfl⟩) fun r s₁ hr => ?_
  cases r with
  | error e => exact hr
  | ok fl =>
    cases fl with
    | next => exact hr.elim
    | brk => exact hr.elim
    | cont => exact hr.elim
    | ret obj =>
      obtain ⟨led, rfl, rfl⟩ := hr
      have hS : (s.heap.push (newS led)).get? s.heap.objs.size = some (newS led) := Heap.get?_push_size _ rfl
      have hT : Shared.TypeIs { s with heap := s.heap.push (newS led) } (.ref s.heap.objs.size) "set" := ⟨_, hS, rfl⟩
      have hli := PySem.F.called_set.init.lookup
      have hbi := PySem.F.called_set.init.bind (.ref s.heap.objs.size)
      repeat (any_goals (first | assumption | wp_step))
      refine codeAny_mono (codeAny_call_builtin (R := wants (fun r s₂ => r = .none ∧ ∃ h' tk, s₂ = { s with heap := h', toks := tk } ∧ h'.SetOf (PySem.strKind prog w) s.heap.objs.size (hasS xs items.size) (numS xs items.size) ∧
          (∀ b o, b < s.heap.objs.size → s.heap.get? b = some o → h'.get? b = some o)) E) PySem.F.called_set.init.plain PySem.F.entry_set_init (check_set_init_1 hT ?_)) fun r₂ s₂ hr₂ => ?_
      · obtain ⟨⟨ocls, odict, odata, oslots⟩, hol, hcl, nl, hdl⟩ := hl
        simp only at hcl hdl
        subst hcl; subst hdl
        have hol' : (s.heap.push (newS led)).get? l = some { cls := .type "tuple", dict := odict, data := .seq items nl, slots := oslots } := Heap.get?_push_of_some _ hol
        have hsls := PySem.F.sub_tuple_set
        have hslf := PySem.F.sub_tuple_frozenset
        have hne : (Value.type "tuple" == Value.type "dict") = false := by decide
        have hl1 : (s.heap.push (newS led)).IsTuple l items := ⟨_, hol', rfl, nl, rfl⟩
        unfold Builtin.«set.__init__» noKeywords Builtin.Frozenset.updateFrom
        generalize hPI : pyIter = PI
        wp_walk
        subst hPI
        refine wpAny_pyIter_tuple hl1 (wpAny_bind (wpAny_runValue ?_))
        have hlS : l < s.heap.objs.size := Heap.lt_size hol
        have hh3 : A.in1.in1.in1.handled = none := by simp [hh]
        have hz1 : (s.heap.push (newS led)).objs.size = s.heap.objs.size + 1 := Heap.size_push ..
        have hval : ∀ (i : Nat) (v : Value), items[i]? = some v → ∃ x t, xs[i]? = some x ∧ v = .str x t := fun i v hv => by
          have hi2 : i < xs.length := by rw [hsz]; exact (Array.getElem?_eq_some_iff.mp hv).1
          obtain ⟨t, e⟩ := SS.strs_at hi i v (by rw [Array.getElem?_toList]; exact hv)
          refine ⟨xs[i], t, List.getElem?_eq_getElem hi2, ?_⟩
          rw [e, List.getD_eq_getElem?_getD, List.getElem?_eq_getElem hi2] <;> rfl
        refine upd_strs ((Walks.tuple hh3 _ l (by rw [hz1]; exact Nat.ne_of_lt (Nat.lt_succ_of_lt hlS)) items).toS) s.heap.objs.size (by rw [hz1]; simp only [List.mem_cons, List.not_mem_nil, or_false, not_or]; exact ⟨Nat.ne_of_lt (Nat.lt_succ_self _), Nat.ne_of_gt hlS⟩) xs (by omega) hval (items.size - 0) 0 _ (by omega) (Nat.zero_le _)
          ⟨⟨_, Heap.get?_push_size _ rfl, rfl, rfl⟩, (hl1.push _)⟩ ?hS0 ?hR
        case hS0 => exact SetOf_congr ((setObjOf_fresh (knd := PySem.strKind prog w) led).setOf (Heap.get?_push_of_some _ hS) (by unfold scanBound; omega)) (fun _ => rfl) rfl
        case hR =>
          intro s' hm hS'
          obtain ⟨h', g', d', tk', os'⟩ := s'
          have eg : g' = s.gens := hm.gens
          have ed : d' = s.drawn := hm.drawn
          have eo : os' = s.os := hm.os
          subst eg; subst ed; subst eo
          show wpAny _ _ _ _ _ _
          refine wpAny_pure ?_
          show wpAny _ _ (ret Value.none) _ _ _
          refine wpAny_pure ⟨rfl, h', tk', rfl, hS', fun b o hb e => ?_⟩
          exact hm.heap b o (by rw [hz1]; simp only [List.mem_cons, List.not_mem_nil, or_false, not_or]; exact ⟨Nat.ne_of_lt hb, Nat.ne_of_lt (Nat.lt_succ_of_lt hb)⟩) (Heap.get?_push_of_some _ (Heap.get?_push_of_some _ e))
      · cases r₂ with
        | error e => exact hr₂
        | ok fl₂ =>
          cases fl₂ with
          | ret r =>
            obtain ⟨rfl, h', tk, rfl, hS', hk'⟩ := hr₂
            repeat (any_goals (first | assumption | wp_step))
            exact h _ _ (efin _ hS') hk'
          | next => exact hr₂.elim
          | brk => exact hr₂.elim
          | cont => exact hr₂.elim
end
/-- len(set(t)), t a tuple of texts -/
def tNumS (K : PySem.W.Frag) (ta : TE) : TE := fun σ H Q => ta σ H fun x H1 => ∃ (l : Addr) (xs : List Str), x = .ref l ∧ SqT K H1 l (xs.map V.str) ∧ xs.length < 1000 ∧ Q (.int (metS xs).length) H1
theorem pe_numS {X : Cx} {a : Expr} {ta : TE} {p p2 q pos : Pos} (hc : X.calm = true) (hg : Gl X "len") (hm : X.mg "len" = none) (hg2 : Gl X "set") (hm2 : X.mg "set" = none) (ha : PE X a ta)
    (na : starEach [a] X.env = (false, eval a X.env) :: starEach [] X.env := by rfl) : PE X (.Call (.Name "len" p) [.Call (.Name "set" p2) [a] [] q] [] pos) (tNumS X.K ta) := by
  refine ⟨fun pins s σ H Q I h => ?_⟩
  refine Call_ (ld_blt I hg hm PySem.boot_len ?_)
  refine PyProof.Rows.callWith_builtin1 (PyProof.Rows.args_cons ?_ rfl) rfl rfl
  refine Call_ (ld_blt I hg2 hm2 PyProof.Rows.boot_set ?_)
  refine PyProof.Rows.callWith_type1 (PyProof.Rows.args_cons (thn (ha.run pins s σ H _ I h) fun v s1 ⟨x, H1, I1, r1, q1⟩ => PyProof.Rows.args_nil ?_) na) na rfl
  obtain ⟨l, xs, rfl, hq, h1, q1⟩ := q1
  cases r1
  obtain ⟨its, r, pl, hz⟩ := I1.tuple hq
  refine set_of_strs (I1.ok.hd hc) pl (xs := xs) (by simpa using strsAre_of r) h1 fun h' tk hS hk => ?_
  refine PyProof.Rows.args_nil ?_
  have hle := metS_len xs
  obtain ⟨o, es, ep, t, ho, hex, hd, _, _, _, hf, hn⟩ := hS
  have I2 : Inv X pins σ H1 { s1 with heap := h', toks := tk } := I1.kept fun b o e => hk b o (Heap.lt_size e) e
  refine call_len_set ho hex hd hf (by rw [hn] <;> omega) ⟨.int (metS xs).length, H1, I2.tok _, ⟨_, by rw [hn]⟩, q1⟩
end Ow

/-! Ow.Y2: x not in o; properties and classmethods by name; a class held by a name; zip of tuples -/
namespace Ow
open PySem PySem.Spec PyProof.Rows L2
section
variable {X : Cx} {cls m : Str} {ps : List Str} {k : Nat} {sp : Sp}
/-- x not in o -/
def rNotInO (C : Addr) (sp : Sp) : R2 := fun x y H Q => ∃ (a dx : Addr) (fs : List (Str × V)), y = .ref a ∧ H a = some (.ins C dx fs) ∧ sp [.ref a, x] H (fun v H' => ∃ b, v = .bl b ∧ Q (.bl (!b)) H') E0
theorem op_notInO (F : MtAt X.prog X.w X.K X.mg X.base cls "__contains__" ps k sp) (hr : Room k X.A) : OpR X (compareOp .NotIn) (rNotInO (He.ga X.K cls) sp) := by
  intro pins s σ H x y v u Q I rx ry h
  obtain ⟨a, dx, fs, rfl, ha, hsp⟩ := h
  obtain ⟨f, fd, hm, hb, hF⟩ := F
  cases ry
  obtain ⟨mA, J, _⟩ := ins_get I.hok ha
  obtain ⟨od, J, _⟩ := J.look
  obtain ⟨m', hFr⟩ := I.fr
  refine PySem.W.notIn_K hFr I.ok.mod.kin J hm.at_ hm.fn ?_
  refine wpAny_mono (dun_run (A := X.A) hF hb hr rfl I (vs := [.ref a, x]) (.cons rfl (.cons rx .nil)) hsp) (fun u s' q => ?_) fun _ _ z => z
  obtain ⟨v, H', I', rv, b, rfl, q⟩ := q
  cases rv
  exact wpAny_truthy_bool ⟨.bl (!b), H', I', rfl, q⟩
end
/-! ### properties by name -/
def PrD (K : PySem.W.Frag) (cls f qual : Str) (st : Stmt) : Prop := ∃ p g fd, MtP K f qual st g fd ∧ PropOf K (He.ga K cls) f p g
def PrAt (P : Program) (w : World) (K : PySem.W.Frag) (mg : Str → Option Value) (base : Heap) (cls f : Str) (ps : List Str) (k : Nat) (sp : Sp) : Prop :=
  ∃ p g fd, PropOf K (He.ga K cls) f p g ∧ Binds K fd ps [] ∧ FnOk P w K mg base CX0 k g fd ps sp
section
variable {P : Program} {w : World} {K : PySem.W.Frag} {mg : Str → Option Value} {base : Heap}
theorem pr_at {cls m qual : Str} {st : Stmt} {N ps : List Str} {k : Nat} {sp : Sp} (T : PrD K cls m qual st) (S : FnScope N ps (defScope st))
    (hb : ∀ (kV doc pm : Value) (an : Option Addr) (cdv ct : Value) (us : List Value), us.length = ps.length → bindArgs (PySem.W.fnOf m qual (defArgs st) (defBody st) (defScope st) .none kV doc pm an cdv ct) ⟨us, []⟩ = pure (ps.zip us))
    (len : ∀ vs H Q E, sp vs H Q E → vs.length = ps.length)
    (hbody : ∀ (f : Addr) (cdv : Value) (A : Around) (outer : List Env) (s : Shared) (H : Hp) (vs : List V) (Q : VK) (E : XK), Room k (A.deeper (envOfC qual (defScope st) s.heap.objs.size f cdv)) → sp vs H Q E →
      ∃ t, PSs (cxOf CX0 P w K mg base N qual (defScope st) f cdv A outer s H E).nox (defBody st) t ∧ t { nx := fun _ H' => Q .non H', rt := Q } (start N vs) H) : PrAt P w K mg base cls m ps (k + 1) sp := by
  obtain ⟨p, f, fd, F, hm⟩ := T
  refine ⟨p, f, fd, hm, F.bindsN hb, F.ok S len fun cdv A outer s H vs Q E hr h => ?_⟩
  obtain ⟨t, h1, h2⟩ := hbody f cdv A outer s H vs Q E hr h
  exact ⟨t, h1.nox, h2⟩
theorem PrAt.mono {cls m : Str} {ps : List Str} {j k : Nat} {sp : Sp} (F : PrAt P w K mg base cls m ps j sp) (h : j ≤ k) : PrAt P w K mg base cls m ps k sp := by
  obtain ⟨p, f, fd, h1, h2, h3⟩ := F
  exact ⟨p, f, fd, h1, h2, h3.mono h⟩
end
theorem pe_pr {X : Cx} {cls f : Str} {ps : List Str} {k : Nat} {sp : Sp} {e : Expr} {pos : Pos} {ta : TE} (F : PrAt X.prog X.w X.K X.mg X.base cls f ps k sp) (c : Cls X.K (He.ga X.K cls)) (hr : Room (k + 1) X.A) (he : PE X e ta)
    (hab : attributeBase e f X.env (eval e X.env) = eval e X.env := by rfl) : PE X (.Attribute e f pos) (tProp (He.ga X.K cls) sp [] E0 ta) := by
  obtain ⟨p, g, fd, h1, h2, h3⟩ := F
  exact pe_prop he c h1 h3 hr h2 .nil pass0 hab
/-! ### classmethods by name -/
def CmD (K : PySem.W.Frag) (cls m qual : Str) (st : Stmt) : Prop := ∃ mc p g fd, MtP K m qual st g fd ∧ ClX.CRead K (He.ga K cls) mc ∧ ClX.CMet K (He.ga K cls) mc m p g
def CmAt (P : Program) (w : World) (K : PySem.W.Frag) (mg : Str → Option Value) (base : Heap) (CX : CXT) (cls m : Str) (k : Nat) (sp : Sp) : Prop :=
  ∃ mc p g, ClX.CRead K (He.ga K cls) mc ∧ ClX.CMet K (He.ga K cls) mc m p g ∧ FnR P w K mg base CX k g sp
/-- what is left over is a new tuple -/
def spStar (n : Nat) (sp : Sp) : Sp := fun vs H Q E => ∃ ws rest, vs = ws ++ rest ∧ ws.length = n ∧ rest.length ≤ sizeLine ∧ ∀ p, H p = Option.none → sp (ws ++ [V.ref p]) (upd H p (.tup rest)) Q E
section
variable {P : Program} {w : World} {K : PySem.W.Frag} {mg : Str → Option Value} {base : Heap}
theorem cm_star {CX : CXT} {cls m qual pv : Str} {st : Stmt} {N ps : List Str} {k : Nat} {sp : Sp} (T : CmD K cls m qual st) (S : FnScope N (ps ++ [pv]) (defScope st)) (hCX : StX.CXUp CX)
    (hb : ∀ (kV doc pm : Value) (an : Option Addr) (cdv ct : Value) (us rest : List Value), us.length = ps.length → bindArgs (PySem.W.fnOf m qual (defArgs st) (defBody st) (defScope st) .none kV doc pm an cdv ct) ⟨us ++ rest, []⟩ = (newTuple rest >>= fun t => pure (ps.zip us ++ [(pv, t)])))
    (hbody : ∀ (f : Addr) (cdv : Value) (A : Around) (outer : List Env) (s : Shared) (H : Hp) (vs : List V) (Q : VK) (E : XK), Room k (A.deeper (envOfC qual (defScope st) s.heap.objs.size f cdv)) → sp vs H Q E →
      ∃ t, PSs (cxOf CX P w K mg base N qual (defScope st) f cdv A outer s H E) (defBody st) t ∧ t { nx := fun _ H' => Q .non H', rt := Q } (start N vs) H) : CmAt P w K mg base CX cls m (k + 1) (spStar ps.length sp) := by
  obtain ⟨mc, p, f, fd, F, hr, hm⟩ := T
  obtain ⟨oc, od, dV, kV, doc, pm, an, cdv, ct, osl, rfl, lk, hcd, hD, _⟩ := F.ex
  obtain rfl : dV = .none := by
    rcases hD with ⟨_, e⟩ | ⟨e, _⟩
    · exact e
    · exact absurd rfl e
  exact ⟨mc, p, f, hr, hm, StX.fn_star lk hcd S hCX (fun us rest hl => hb _ _ _ _ _ _ us rest hl) fun A outer s H vs Q E hr h => hbody f cdv A outer s H vs Q E hr h⟩
end
theorem pe_cm {X : Cx} {CX : CXT} {cls m : Str} {k : Nat} {sp : Sp} {E : XK} {o e : Expr} {es : List Expr} {pos apos : Pos} {ta : TE} {t : TA} {pl : Sem Bool} (F : CmAt X.prog X.w X.K X.mg X.base CX cls m k sp) (hx : Passes CX X E) (hr : Room k X.A) (he : PE X o ta) (ha : PA X (e :: es) t)
    (hst : starEach (e :: es) X.env = (false, eval e X.env) :: starEach es X.env := by rfl) (hpl : (backTo pos (starEach es X.env)).any (·.1) = false := by rfl)
    (ht : eval (.Call (.Attribute o m apos) (e :: es) [] pos) X.env = (do
      let ov ← eval o X.env
      standAt apos.atName
      let (f, first) ← holding [ov] (getMethod ov m pl)
      callWith pos f first (backTo pos (starEach (e :: es) X.env)) (backToKw pos (keywordEach [] X.env))) := by rfl) :
    PE X (.Call (.Attribute o m apos) (e :: es) [] pos) (ClX.tCMeth (He.ga X.K cls) sp E ta t) := by
  obtain ⟨mc, p, g, h1, h2, h3⟩ := F
  exact ClX.pe_cmeth he h1 h2 h3 hr hx ha hst hpl ht
/-! ### a class held by a name -/
def tMakeL (i : Nat) (C : Addr) (sp : Sp) (E : XK) (t : TA) : TE := fun σ H Q => σ[i]? = some (some (.ref C)) ∧ tMake C sp [] E t σ H Q
theorem pe_mkLX {X : Cx} {cls x : Str} {ps : List Str} {k i : Nat} {sp : Sp} {E : XK} {p pos : Pos} {e : Expr} {es : List Expr} {t : TA} (F : MtAtX X.prog X.w X.K X.mg X.base cls "__init__" ps k sp) (c : ∃ f, Mk X.K (He.ga X.K cls) f) (hx : Passes (L2.CX X.prog X.w) X E) (hr : Room (k + 1) X.A)
    (hN : X.N[i]? = some x) (hv : Vis X.env.scope x) (ha : PA X (e :: es) t) (hdb : (x == ("__debug__" : Str)) = false := by decide) (hcd : (x == ("__classdict__" : Str)) = false := by decide)
    (he : starEach (e :: es) X.env = (false, eval e X.env) :: starEach es X.env := by rfl) (hpl : (backTo pos (starEach es X.env)).any (·.1) = false := by rfl) :
    PE X (.Call (.Name x p) (e :: es) [] pos) (tMakeL i (He.ga X.K cls) sp E t) := by
  obtain ⟨f, fd, h1, h2, h3⟩ := F
  obtain ⟨f', M⟩ := c
  have e1 : f' = f := by
    have z := M.init.symm.trans h1.at_
    cases z
    rfl
  subst e1
  refine ⟨fun pins s σ H Q I h => ?_⟩
  obtain ⟨hs, ht⟩ := h
  refine wpAny_Call_Name_kw (thn ((pe_var (pos := p) hN hv hdb hcd).run pins s σ H (fun v H1 => v = .ref (He.ga X.K cls) ∧ H1 = H) I ⟨.ref (He.ga X.K cls), hs, rfl, rfl⟩) fun u s1 ⟨v, H1, I1, r1, q1⟩ => ?_)
  obtain ⟨rfl, rfl⟩ := q1
  cases r1
  refine PySem.W.callWith_K (h₀ := X.base) I.ok.mod.kin M.kp (thn (ha.run pos pins s1 σ _ _ I1 ht) fun us s2 ⟨vs, H2, I2, r, q⟩ => ⟨I2.kIn, ?_⟩) he hpl
  exact run_make M h3 hr h2 .nil hx I2 r q
/-! ### zip of tuples -/
theorem walk_zipT {K : PySem.W.Frag} {a b : Addr} {xs ys : List V} {n : Nat} (hn : n = min xs.length ys.length) : Walk (RZ.ItzT K a b) n (fun H => SqT K H a xs ∧ SqT K H b ys) (YPair (fun i => xs[i]?) (fun i => ys[i]?)) := by
  subst hn
  refine ⟨fun i _ hi q => ?_, fun _ q => ⟨xs, ys, q.1, q.2, by omega⟩, fun i H v H' _ q y => ?_⟩
  · have h1 : i < xs.length := by omega
    have h2 : i < ys.length := by omega
    exact ⟨xs, ys, xs[i], ys[i], q.1, q.2, by simp [h1], by simp [h2]⟩
  · obtain ⟨T, x, z, h1, h2, h3, h4, h5⟩ := y
    exact ⟨T, x, z, h1, h2, h3, h4 xs q.1, h5 ys q.2⟩
end Ow

/-! Ow.Z1: texts in order; the first and the last sign; a text cut -/
namespace Ow
open PySem PySem.Spec PyProof.Rows L2 TL
/-! ### texts in order -/
def leS (a b : Str) : Prop := ¬ (tl b < tl a)
instance (a b : Str) : Decidable (leS a b) := inferInstanceAs (Decidable (¬ _))
theorem leS_refl (a : Str) : leS a a := List.lt_irrefl _
theorem leS_trans {a b c : Str} (h1 : leS a b) (h2 : leS b c) : leS a c := List.le_trans (l₁ := tl a) (l₂ := tl b) (l₃ := tl c) h1 h2
theorem leS_total (a b : Str) : leS a b ∨ leS b a := List.le_total (tl a) (tl b)
theorem leS_anti {a b : Str} (h1 : leS a b) (h2 : leS b a) : a = b := ext_tl (List.le_antisymm (as := tl a) (bs := tl b) h1 h2)
theorem rising_iff : ∀ (l : List Str) (p : Str), risingS p l = true ↔ (p :: l).Pairwise leS
  | [], p => by simp [risingS]
  | x :: r, p => by
    unfold risingS
    rw [Bool.and_eq_true, rising_iff r x, List.pairwise_cons (l := x :: r)]
    have e : (!ltCps x.cps.toList p.cps.toList) = true ↔ leS p x := by
      rw [ltCps_eq, Bool.not_eq_true', decide_eq_false_iff_not]
      exact Iff.rfl
    rw [e]
    refine ⟨fun ⟨h1, h2⟩ => ⟨fun y hy => ?_, h2⟩, fun ⟨h1, h2⟩ => ⟨h1 x (List.mem_cons_self ..), h2⟩⟩
    rcases List.mem_cons.mp hy with rfl | hy
    · exact h1
    · exact leS_trans h1 ((List.pairwise_cons.mp h2).1 y hy)
theorem sortedS_iff (l : List Str) : sortedS l = true ↔ l.Pairwise leS := by
  cases l with
  | nil => simp [sortedS]
  | cons x r => exact rising_iff r x
def insS (x : Str) : List Str → List Str
  | [] => [x]
  | y :: r => if leS x y then x :: y :: r else y :: insS x r
def srt : List Str → List Str
  | [] => []
  | x :: r => insS x (srt r)
theorem insS_perm (x : Str) : ∀ l, (insS x l).Perm (x :: l)
  | [] => .refl _
  | y :: r => by
    unfold insS
    split
    · exact .refl _
    · exact ((insS_perm x r).cons y).trans (.swap x y r)
theorem srt_perm : ∀ l, (srt l).Perm l
  | [] => .refl _
  | x :: r => (insS_perm x (srt r)).trans ((srt_perm r).cons x)
theorem insS_sorted (x : Str) : ∀ {l : List Str}, l.Pairwise leS → (insS x l).Pairwise leS
  | [], _ => by simp [insS]
  | y :: r, h => by
    unfold insS
    split
    · rename_i hx
      refine List.pairwise_cons.mpr ⟨fun z hz => ?_, h⟩
      rcases List.mem_cons.mp hz with rfl | hz
      · exact hx
      · exact leS_trans hx ((List.pairwise_cons.mp h).1 z hz)
    · rename_i hx
      refine List.pairwise_cons.mpr ⟨fun z hz => ?_, insS_sorted x (List.pairwise_cons.mp h).2⟩
      rcases List.mem_cons.mp ((insS_perm x r).mem_iff.mp hz) with rfl | hz
      · exact (leS_total z y).resolve_left hx
      · exact (List.pairwise_cons.mp h).1 z hz
theorem srt_sorted : ∀ l, (srt l).Pairwise leS
  | [] => .nil
  | x :: r => insS_sorted x (srt_sorted r)
theorem sorted_eq : ∀ {l m : List Str}, l.Pairwise leS → m.Pairwise leS → l.Perm m → l = m
  | [], m, _, _, p => (List.Perm.nil_eq p)
  | x :: l, [], _, _, p => (List.Perm.eq_nil p)
  | x :: l, y :: m, h1, h2, p => by
    have a1 := List.pairwise_cons.mp h1
    have a2 := List.pairwise_cons.mp h2
    have e : x = y := by
      refine leS_anti ?_ ?_
      · rcases List.mem_cons.mp (p.mem_iff.mpr (List.mem_cons_self ..)) with z | z
        · rw [← z]
          exact leS_refl y
        · exact a1.1 _ z
      · rcases List.mem_cons.mp (p.mem_iff.mp (List.mem_cons_self ..)) with z | z
        · rw [z]
          exact leS_refl y
        · exact a2.1 _ z
    subst e
    rw [sorted_eq a1.2 a2.2 (List.Perm.cons_inv p)]
/-- the sorted texts are these and no others -/
theorem srt_of {ys xs : List Str} (p : ys.Perm xs) (h : sortedS ys = true) : ys = srt xs := sorted_eq ((sortedS_iff _).mp h) (srt_sorted _) (p.trans (srt_perm xs).symm)
theorem srt_id {xs : List Str} (h : xs.Pairwise leS) : srt xs = xs := sorted_eq (srt_sorted _) h (srt_perm xs)
theorem srt_rev {xs : List Str} (h : xs.Pairwise leS) : srt xs.reverse = xs := sorted_eq (srt_sorted _) h ((srt_perm _).trans (List.reverse_perm xs))
/-! ### the first and the last sign -/
theorem starts_pre {z y : Str} : Txt.startswith z y = decide (tl y <+: tl z) := by
  unfold Txt.startswith Builtin.Str.subAt
  have e : (z.cps.extract 0 (0 + y.length) == y.cps) = decide ((tl z).take y.length = tl y) := by
    rw [Nat.zero_add, Bool.eq_iff_iff, beq_iff_eq, decide_eq_true_iff, ← Array.toList_inj]
    simp [tl]
  rw [e, Nat.zero_add]
  by_cases h : tl y <+: tl z
  · have hl := h.length_le
    have h2 := List.prefix_iff_eq_take.mp h
    rw [decide_eq_true h, decide_eq_true (by rw [len_tl, len_tl]; exact hl), decide_eq_true (by rw [len_tl]; exact h2.symm)]
    rfl
  · rw [decide_eq_false h]
    have : ¬ (tl z).take y.length = tl y := fun q => h (by rw [← q]; exact List.take_prefix _ _)
    rw [decide_eq_false this, Bool.and_false]
theorem ends_suf {z y : Str} : Txt.endswith z y = decide (tl y <:+ tl z) := by
  unfold Txt.endswith Builtin.Str.subAt
  rw [Nat.zero_add]
  by_cases hl : y.length ≤ z.length
  · have e : (z.cps.extract (z.length - y.length) (z.length - y.length + y.length) == y.cps) = decide ((tl z).drop (z.length - y.length) = tl y) := by
      rw [Bool.eq_iff_iff, beq_iff_eq, decide_eq_true_iff, ← Array.toList_inj]
      have e1 : z.length - y.length + y.length = z.length := Nat.sub_add_cancel hl
      rw [e1]
      simp [tl, Str.length]
      rw [List.take_of_length_le (by simp)]
    rw [e, decide_eq_true hl, Bool.true_and]
    congr 1
    rw [len_tl, len_tl]
    exact propext ⟨fun q => by rw [← q]; exact List.drop_suffix _ _, fun q => (List.suffix_iff_eq_drop.mp q).symm⟩
  · rw [decide_eq_false hl, Bool.false_and]
    refine (decide_eq_false fun q => hl ?_).symm
    have := q.length_le
    rw [len_tl, len_tl]
    exact this
theorem six_nat {n d k : Nat} (h : k ≤ n) : HT.sIx n d (some ((k : Nat) : Int)) = k := by
  rw [HT.sIx_nat]
  omega
theorem tl_from (z : Str) {k : Nat} (h : k ≤ z.length) : tl (cutS z (some ((k : Nat) : Int)) none) = (tl z).drop k := by
  unfold cutS
  rw [tl_mk, six_nat h]
  have e : HT.sIx z.length z.length none = z.length := rfl
  rw [e]
  refine List.take_of_length_le ?_
  rw [List.length_drop, len_tl]
  exact Nat.le_refl _
theorem tl_inner (z : Str) (h : 2 ≤ z.length) : tl (cutS z (some 1) (some (-1))) = ((tl z).drop 1).take (z.length - 2) := by
  unfold cutS
  rw [tl_mk]
  have e1 : HT.sIx z.length 0 (some (1 : Int)) = 1 := six_nat (k := 1) (by omega)
  have e2 : HT.sIx z.length z.length (some (-1 : Int)) = z.length - 1 := by
    unfold HT.sIx
    simp
    omega
  rw [e1, e2]
  rfl
end Ow

/-! Ow.Z2: ways, plain: reading their words -/
namespace Ow
open PySem PySem.Spec PyProof.Rows L2 TL
/-- a position of a way: its word's name, its table, how it was come to, its flags -/
structure Stp where
  nm : Str
  tb : Str
  bk : Bool
  lk : Str
  fl : List Str
def colIn (ts : List Tab) (t y : Str) : Option Col := (tabAt ts t).bind fun cs => colAt cs y
def isLk (ts : List Tab) (t y : Str) : Bool := match colIn ts t y with
  | some c => decide (c.kind = ("link" : Str))
  | none => false
def isFl (ts : List Tab) (t y : Str) : Bool := match colIn ts t y with
  | some c => decide (c.kind = ("flag" : Str))
  | none => false
/-- where a column leads -/
def tgIn (ts : List Tab) (t y : Str) : Str := match colIn ts t y with
  | some c => oS c.tgt
  | none => ("" : Str)
def flsOk (ts : List Tab) (t : Str) (fs : List Str) : Prop := ∀ i f, fs[i]? = some f → isFl ts t f = true ∧ f ∉ fs.take i
instance (ts : List Tab) (t : Str) (fs : List Str) : Decidable (flsOk ts t fs) :=
  decidable_of_iff (∀ i, (h : i < fs.length) → isFl ts t fs[i] = true ∧ fs[i] ∉ fs.take i)
    ⟨fun h i f hf => by
      obtain ⟨hi, rfl⟩ := List.getElem?_eq_some_iff.mp hf
      exact h i hi, fun h i hi => h i _ (List.getElem?_eq_getElem hi)⟩
def inner (z : Str) : Str := cutS z (some 1) (some (-1))
def flagsIn (z : Str) : List Str := Txt.split (inner z) ("," : Str)
def readF (ts : List Tab) (t z : Str) : Option (List Str) :=
  if z = ("" : Str) then some []
  else if Txt.startswith z ("[" : Str) = false ∨ Txt.endswith z ("]" : Str) = false then none
  else if flsOk ts t (flagsIn z) then some (srt (flagsIn z)) else none
/-- is it back, the link, the table come to -/
def readM (ts : List Tab) (t z : Str) : Option (Bool × Str × Str) :=
  if Txt.startswith z ("~" : Str) = false then (if isLk ts t z = true then some (false, z, tgIn ts t z) else none)
  else
    let p := Txt.partition (cutS z (some 1) none) ("." : Str)
    if isLk ts p.1 p.2.2 = true ∧ tgIn ts p.1 p.2.2 = t then some (true, p.2.2, p.1) else none
def wName (z : Str) : Str := (Txt.partition z ("[" : Str)).1
def wRest (z : Str) : Str := cutS z (some (((wName z).length : Nat) : Int)) none
def stepW (ts : List Tab) (es : List Stp) (z : Str) : Option Stp := match es.getLast? with
  | none => if wName z ∈ ts.map Prod.fst then (readF ts (wName z) (wRest z)).map fun f => ⟨wName z, wName z, false, ("" : Str), f⟩ else none
  | some l => (readM ts l.tb (wName z)).bind fun m => (readF ts m.2.2 (wRest z)).map fun f => ⟨wName z, m.2.2, m.1, m.2.1, f⟩
/-- the words read: the positions, or the number of the first wrong word -/
def readW (ts : List Tab) : List Str → List Stp → Except Nat (List Stp)
  | [], es => .ok es
  | z :: zs, es => match stepW ts es z with
    | none => .error es.length
    | some e => if 12 < es.length then .error es.length else readW ts zs (es ++ [e])
/-! ### good ways -/
def MvOk (ts : List Tab) (t : Str) (e : Stp) : Prop := ∃ c, (e.bk = false ∧ e.nm = e.lk ∧ colIn ts t e.lk = some c ∧ c.kind = ("link" : Str) ∧ c.tgt = some e.tb) ∨
  (e.bk = true ∧ e.nm = ("~" : Str) ++ e.tb ++ ("." : Str) ++ e.lk ∧ colIn ts e.tb e.lk = some c ∧ c.kind = ("link" : Str) ∧ c.tgt = some t)
def FlOk (ts : List Tab) (t : Str) (fs : List Str) : Prop := fs.Pairwise leS ∧ fs.Nodup ∧ ∀ f ∈ fs, isFl ts t f = true
inductive WayOk (ts : List Tab) : List Stp → Prop
  | one {s : Str} {fs : List Str} (h : s ∈ ts.map Prod.fst) (f : FlOk ts s fs) : WayOk ts [⟨s, s, false, ("" : Str), fs⟩]
  | more {es : List Stp} {l e : Stp} (h : WayOk ts es) (hl : es.getLast? = some l) (m : MvOk ts l.tb e) (f : FlOk ts e.tb e.fl) : WayOk ts (es ++ [e])
theorem WayOk.ne {ts : List Tab} {es : List Stp} (h : WayOk ts es) : es ≠ [] := by
  cases h with
  | one => simp
  | more => simp
/-- a word, its flags in one order or the other -/
def wordF (r : Bool) (e : Stp) : Str := e.nm ++ (if e.fl = [] then ("" : Str) else ("[" : Str) ++ Txt.join ("," : Str) (if r = true then e.fl.reverse else e.fl) ++ ("]" : Str))
theorem col_word {ts : List Tab} (h : TabsOk ts) {t y : Str} {c : Col} (e : colIn ts t y = some c) : ∃ cs, tabAt ts t = some cs ∧ colAt cs y = some c ∧ c ∈ cs ∧ c.name = y ∧ (t, cs) ∈ ts ∧ isW t = true ∧ ColOk (ts.map Prod.fst) c := by
  unfold colIn at e
  cases e1 : tabAt ts t with
  | none => rw [e1] at e; cases e
  | some cs =>
    rw [e1] at e
    have e : colAt cs y = some c := e
    have hm := tabAt_mem e1
    have hc : c ∈ cs := List.mem_of_find?_eq_some e
    have hn : c.name = y := by
      have := List.find?_some e
      simpa using this
    exact ⟨cs, rfl, e, hc, hn, hm, (h.tab _ hm).w, (h.tab _ hm).cols c hc⟩
theorem isFl_word {ts : List Tab} (h : TabsOk ts) {t y : Str} (e : isFl ts t y = true) : isW y = true := by
  unfold isFl at e
  split at e
  · rename_i c hc
    obtain ⟨cs, _, _, _, hn, _, _, ok⟩ := col_word h hc
    rw [← hn]
    exact ok.w
  · cases e
theorem isFl_tab {ts : List Tab} (h : TabsOk ts) {t y : Str} (e : isFl ts t y = true) : ∃ cs, tabAt ts t = some cs ∧ y ∈ cs.map Col.name := by
  unfold isFl at e
  split at e
  · rename_i c hc
    obtain ⟨cs, h1, _, hm, hn, _, _, ok⟩ := col_word h hc
    exact ⟨cs, h1, List.mem_map.mpr ⟨c, hm, hn⟩⟩
  · cases e
/-- few flags -/
theorem fls_few {ts : List Tab} (h : TabsOk ts) {t : Str} {fs : List Str} (nd : fs.Nodup) (hf : ∀ f ∈ fs, isFl ts t f = true) : fs.length ≤ 6 := by
  cases fs with
  | nil => simp
  | cons f r =>
    obtain ⟨cs, h1, _⟩ := isFl_tab h (hf f (List.mem_cons_self ..))
    have few := (h.tab _ (tabAt_mem h1)).few
    have := pigeon (m := cs.map Col.name) nd fun x hx => by
      obtain ⟨cs', h1', hx'⟩ := isFl_tab h (hf x hx)
      rw [h1] at h1'
      cases h1'
      exact hx'
    rw [List.length_map] at this
    exact Nat.le_trans this few
theorem flsOk_iff {ts : List Tab} {t : Str} {fs : List Str} : flsOk ts t fs ↔ fs.Nodup ∧ ∀ f ∈ fs, isFl ts t f = true := by
  constructor
  · intro h
    refine ⟨?_, fun f hf => ?_⟩
    · unfold List.Nodup
      rw [List.pairwise_iff_getElem]
      intro i j hi hj hij e
      refine (h j _ (List.getElem?_eq_getElem hj)).2 ?_
      rw [← e, List.mem_take_iff_getElem]
      exact ⟨i, by omega, rfl⟩
    · obtain ⟨i, hi, rfl⟩ := List.getElem_of_mem hf
      exact (h i _ (List.getElem?_eq_getElem hi)).1
  · rintro ⟨nd, hf⟩ i f he
    refine ⟨hf f (List.mem_of_getElem? he), fun hm => ?_⟩
    obtain ⟨hi, rfl⟩ := List.getElem?_eq_some_iff.mp he
    obtain ⟨j, hj, e⟩ := List.mem_take_iff_getElem.mp hm
    have := List.pairwise_iff_getElem.mp nd j i (by omega) hi (by omega)
    exact this e
theorem word_free1 {z : Str} (h : isW z = true) {c : Nat} (hc : c < 97 ∨ 122 < c) : c ∉ tl z := fun q => by
  have := isW_low h c q
  omega
/-- flags as they are written are read -/
theorem readF_good {ts : List Tab} (h : TabsOk ts) {t : Str} {fs : List Str} (hf : FlOk ts t fs) (r : Bool) :
    readF ts t (if fs = [] then ("" : Str) else ("[" : Str) ++ Txt.join ("," : Str) (if r = true then fs.reverse else fs) ++ ("]" : Str)) = some fs := by
  by_cases hn : fs = []
  · rw [if_pos hn, hn]
    unfold readF
    rw [if_pos rfl]
  · rw [if_neg hn]
    generalize hg : (if r = true then fs.reverse else fs) = gs
    have gne : gs ≠ [] := by
      rw [← hg]
      split
      · simpa using hn
      · exact hn
    have gp : gs.Perm fs := by
      rw [← hg]
      split
      · exact List.reverse_perm fs
      · exact .refl _
    have gw : ∀ f ∈ gs, isW f = true := fun f hm => isFl_word h (hf.2.2 f (gp.mem_iff.mp hm))
    have t1 : tl (("[" : Str) ++ Txt.join ("," : Str) gs ++ ("]" : Str)) = 91 :: (tl (Txt.join ("," : Str) gs) ++ [93]) := by
      rw [tl_append, tl_append]
      have e1 : tl ("[" : Str) = [91] := by decide +kernel
      have e2 : tl ("]" : Str) = [93] := by decide +kernel
      rw [e1, e2]
      rfl
    generalize hz : (("[" : Str) ++ Txt.join ("," : Str) gs ++ ("]" : Str)) = z at t1
    have z0 : z ≠ ("" : Str) := fun q => by
      rw [q] at t1
      exact absurd t1 (by simp [show tl ("" : Str) = [] from by decide +kernel])
    have s1 : Txt.startswith z ("[" : Str) = true := by
      rw [starts_pre, t1]
      refine decide_eq_true ?_
      have e1 : tl ("[" : Str) = [91] := by decide +kernel
      rw [e1]
      exact ⟨_, rfl⟩
    have s2 : Txt.endswith z ("]" : Str) = true := by
      rw [ends_suf, t1]
      refine decide_eq_true ?_
      have e1 : tl ("]" : Str) = [93] := by decide +kernel
      rw [e1]
      exact ⟨91 :: tl (Txt.join ("," : Str) gs), rfl⟩
    have zl : z.length = (tl (Txt.join ("," : Str) gs)).length + 2 := by
      rw [len_tl, t1]
      simp
    have inn : inner z = Txt.join ("," : Str) gs := by
      refine ext_tl ?_
      unfold inner
      rw [tl_inner z (by omega), t1, zl]
      show List.take _ (tl (Txt.join ("," : Str) gs) ++ [93]) = _
      rw [show (tl (Txt.join ("," : Str) gs)).length + 2 - 2 = (tl (Txt.join ("," : Str) gs)).length by omega, List.take_left]
    have fi : flagsIn z = gs := by
      unfold flagsIn
      rw [inn]
      exact TL.split_join (s := 44) (S := []) (by decide +kernel) (by decide +kernel) gne fun p hp => word_free1 (gw p hp) (.inl (by decide))
    unfold readF
    rw [if_neg z0, if_neg (by rw [s1, s2]; simp), fi, if_pos (flsOk_iff.mpr ⟨gp.nodup_iff.mpr hf.2.1, fun f hm => hf.2.2 f (gp.mem_iff.mp hm)⟩)]
    congr 1
    exact sorted_eq (srt_sorted _) hf.1 ((srt_perm _).trans gp)
/-- a name has none of these signs -/
def NmF (z : Str) : Prop := ∀ c ∈ tl z, (97 ≤ c ∧ c ≤ 122) ∨ c = 126 ∨ c = 46
theorem NmF.free {z : Str} (h : NmF z) {c : Nat} (hc : c < 46 ∨ (46 < c ∧ c < 97)) : c ∉ tl z := fun q => by
  have := h c q
  omega
theorem NmF.word {z : Str} (h : isW z = true) : NmF z := fun c hc => .inl (isW_low h c hc)
theorem split_word {e : Stp} (h : NmF e.nm) (r : Bool) : wName (wordF r e) = e.nm ∧ wRest (wordF r e) = if e.fl = [] then ("" : Str) else ("[" : Str) ++ Txt.join ("," : Str) (if r = true then e.fl.reverse else e.fl) ++ ("]" : Str) := by
  have h1 : wName (wordF r e) = e.nm := by
    unfold wName wordF
    split
    · have e0 : e.nm ++ ("" : Str) = e.nm := ext_tl (by rw [tl_append, show tl ("" : Str) = [] from by decide +kernel, List.append_nil])
      rw [e0, partition_none (s := 91) (S := []) (by decide +kernel) (h.free (by omega))]
    · rename_i hn
      generalize (if r = true then e.fl.reverse else e.fl) = gs
      have e0 : e.nm ++ (("[" : Str) ++ Txt.join ("," : Str) gs ++ ("]" : Str)) = e.nm ++ ("[" : Str) ++ (Txt.join ("," : Str) gs ++ ("]" : Str)) := ext_tl (by simp only [tl_append, List.append_assoc])
      rw [e0, partition_app (s := 91) (S := []) (by decide +kernel) (h.free (by omega))]
  refine ⟨h1, ?_⟩
  unfold wRest
  rw [h1]
  generalize hg : (if e.fl = [] then ("" : Str) else ("[" : Str) ++ Txt.join ("," : Str) (if r = true then e.fl.reverse else e.fl) ++ ("]" : Str)) = y
  have e1 : wordF r e = e.nm ++ y := by
    unfold wordF
    rw [hg]
  refine ext_tl ?_
  rw [e1, tl_from _ (by rw [len_tl, len_tl, tl_append, List.length_append]; omega), tl_append, len_tl, List.drop_left]
theorem readM_good {ts : List Tab} (h : TabsOk ts) {t : Str} {e : Stp} (m : MvOk ts t e) : readM ts t e.nm = some (e.bk, e.lk, e.tb) ∧ NmF e.nm ∧ e.tb ∈ ts.map Prod.fst ∧ e.nm.length ≤ 18 := by
  obtain ⟨c, ⟨h1, h2, h3, h4, h5⟩ | ⟨h1, h2, h3, h4, h5⟩⟩ := m
  · obtain ⟨cs, _, _, _, hn, _, _, ok⟩ := col_word h h3
    have hw : isW e.nm = true := by
      rw [h2, ← hn]
      exact ok.w
    have s0 : Txt.startswith e.nm ("~" : Str) = false := by
      rw [starts_pre]
      refine decide_eq_false fun q => ?_
      obtain ⟨y, hy⟩ := q
      have e1 : tl ("~" : Str) = [126] := by decide +kernel
      rw [e1] at hy
      exact word_free1 hw (c := 126) (by omega) (by rw [← hy]; simp)
    have hk : isLk ts t e.nm = true := by
      unfold isLk
      rw [h2, h3]
      exact decide_eq_true h4
    have ht : tgIn ts t e.nm = e.tb := by
      unfold tgIn
      rw [h2, h3]
      show oS c.tgt = _
      rw [h5]
      rfl
    refine ⟨?_, NmF.word hw, ?_, by have := (isW_len hw).2; omega⟩
    · unfold readM
      rw [if_pos s0, if_pos hk, ht, h1, ← h2]
    · rcases ok.k with ⟨_, t', r', k1, k2, k3, k4⟩ | ⟨_, k1, _⟩
      · rw [h5] at k1
        cases k1
        exact k3
      · rw [h5] at k1
        cases k1
  · obtain ⟨cs, _, _, _, hn, hm, htw, ok⟩ := col_word h h3
    have hw : isW e.lk = true := by
      rw [← hn]
      exact ok.w
    have e1 : tl ("~" : Str) = [126] := by decide +kernel
    have e2 : tl ("." : Str) = [46] := by decide +kernel
    have tz : tl e.nm = 126 :: (tl e.tb ++ ([46] ++ tl e.lk)) := by
      rw [h2]
      simp only [tl_append, e1, e2, List.append_assoc]
      rfl
    have s0 : Txt.startswith e.nm ("~" : Str) = true := by
      rw [starts_pre, tz, e1]
      exact decide_eq_true ⟨_, rfl⟩
    have cu : cutS e.nm (some 1) none = e.tb ++ ("." : Str) ++ e.lk := by
      refine ext_tl ?_
      have := tl_from e.nm (k := 1) (by rw [len_tl, tz]; simp)
      rw [show ((1 : Nat) : Int) = 1 from rfl] at this
      rw [this, tz]
      simp only [tl_append, e2, List.append_assoc]
      rfl
    have pa : Txt.partition (cutS e.nm (some 1) none) ("." : Str) = (e.tb, ("." : Str), e.lk) := by
      rw [cu]
      exact partition_app (s := 46) (S := []) e2 (word_free1 htw (.inl (by decide)))
    have hk : isLk ts e.tb e.lk = true := by
      unfold isLk
      rw [h3]
      exact decide_eq_true h4
    have ht : tgIn ts e.tb e.lk = t := by
      unfold tgIn
      rw [h3]
      show oS c.tgt = _
      rw [h5]
      rfl
    refine ⟨?_, fun c' hc' => ?_, List.mem_map.mpr ⟨_, hm, rfl⟩, ?_⟩
    · unfold readM
      rw [if_neg (by rw [s0]; simp)]
      show (if isLk ts (Txt.partition (cutS e.nm (some 1) none) ("." : Str)).1 (Txt.partition (cutS e.nm (some 1) none) ("." : Str)).2.2 = true ∧ tgIn ts (Txt.partition (cutS e.nm (some 1) none) ("." : Str)).1 (Txt.partition (cutS e.nm (some 1) none) ("." : Str)).2.2 = t then _ else _) = _
      rw [pa]
      show (if isLk ts e.tb e.lk = true ∧ tgIn ts e.tb e.lk = t then some (true, e.lk, e.tb) else none) = _
      rw [if_pos ⟨hk, ht⟩, h1]
    · rw [tz] at hc'
      simp only [List.mem_cons, List.mem_append, List.not_mem_nil, or_false] at hc'
      rcases hc' with z | z | z | z
      · exact .inr (.inl z)
      · exact .inl (isW_low htw _ z)
      · exact .inr (.inr z)
      · exact .inl (isW_low hw _ z)
    · rw [len_tl, tz]
      have a1 := (isW_len htw).2
      have a2 := (isW_len hw).2
      rw [len_tl] at a1 a2
      simp only [List.length_cons, List.length_append, List.length_nil]
      omega
theorem readW_app (ts : List Tab) : ∀ (a b : List Str) (acc es : List Stp), readW ts a acc = .ok es → readW ts (a ++ b) acc = readW ts b es
  | [], b, acc, es, h => by
    unfold readW at h
    cases h
    rfl
  | z :: a, b, acc, es, h => by
    unfold readW at h
    rw [List.cons_append]
    conv => lhs; unfold readW
    split at h
    · cases h
    · rename_i e he
      show (if 12 < acc.length then _ else _) = _
      split at h
      · cases h
      · rename_i hn
        rw [if_neg hn]
        exact readW_app ts a b _ es h
/-- THE PLAIN LAW: the words of a good way are read -/
theorem read_way {ts : List Tab} (h : TabsOk ts) {es : List Stp} (w : WayOk ts es) (hl : es.length ≤ 13) (r : Bool) : readW ts (es.map (wordF r)) [] = .ok es := by
  induction w with
  | one hs f =>
    rename_i s fs
    have hw : isW s = true := h.names s hs
    obtain ⟨h1, h2⟩ := split_word (e := ⟨s, s, false, ("" : Str), fs⟩) (NmF.word hw) r
    show readW ts [wordF r _] [] = _
    unfold readW
    have e : stepW ts [] (wordF r ⟨s, s, false, ("" : Str), fs⟩) = some ⟨s, s, false, ("" : Str), fs⟩ := by
      unfold stepW
      show (if wName _ ∈ _ then _ else _) = _
      rw [h1, h2, if_pos hs, readF_good h f r]
      rfl
    rw [e]
    show (if 12 < 0 then _ else _) = _
    rw [if_neg (by decide)]
    rfl
  | more w' hla m f ih =>
    rename_i es l e
    rw [List.length_append] at hl
    have hl : es.length ≤ 12 := by simpa using hl
    rw [List.map_append, readW_app ts _ _ _ _ (ih (by omega))]
    obtain ⟨m1, m2, m3, m4⟩ := readM_good h m
    obtain ⟨h1, h2⟩ := split_word m2 r
    show readW ts [wordF r e] es = _
    unfold readW
    have e' : stepW ts es (wordF r e) = some e := by
      unfold stepW
      rw [hla]
      show ((readM ts l.tb (wName (wordF r e))).bind fun m => (readF ts m.2.2 (wRest (wordF r e))).map fun f => (⟨wName (wordF r e), m.2.2, m.1, m.2.1, f⟩ : Stp)) = _
      rw [h1, h2, m1]
      show ((readF ts e.tb _).map fun f => (⟨e.nm, e.tb, e.bk, e.lk, f⟩ : Stp)) = _
      rw [readF_good h f r]
      rfl
    rw [e']
    show (if 12 < es.length then _ else _) = _
    rw [if_neg (by omega)]
    rfl
end Ow

/-! Ow.Z3: ways on the heap; promises -/
namespace Ow
open PySem PySem.Spec PyProof.Rows L2 TL
/-- a text as Python has them, not too long -/
def Lo (z : Str) : Prop := (∀ c ∈ tl z, c < 0x110000) ∧ z.length ≤ 100000
theorem Lo.ok {z : Str} (h : Lo z) : PyData.strOk z = true := strOk_low h.1
theorem Lo.word {z : Str} (h : isW z = true) : Lo z := ⟨fun c hc => by have := isW_low h c hc; omega, by have := (isW_len h).2; omega⟩
theorem Lo.part {z y : Str} (h : Lo z) (hs : ∀ c ∈ tl y, c ∈ tl z) (hl : y.length ≤ z.length) : Lo y := ⟨fun c hc => h.1 c (hs c hc), Nat.le_trans hl h.2⟩
theorem cut_mem {z : Str} {lo hi : Option Int} {c : Nat} (h : c ∈ tl (cutS z lo hi)) : c ∈ tl z := by
  unfold cutS at h
  rw [tl_mk] at h
  exact List.mem_of_mem_drop (List.mem_of_mem_take h)
theorem Lo.cut {z : Str} (h : Lo z) (lo hi : Option Int) : Lo (cutS z lo hi) := h.part (fun _ q => cut_mem q) (cutS_length z lo hi)
theorem par_parts {S : List Nat} : ∀ (l acc : List Nat) {p : List Nat × List Nat}, par S acc l = some p → (∃ k, p.1 = acc ++ l.take k) ∧ ∃ k, p.2 = l.drop k
  | [], acc, p, h => by
    unfold par at h
    cases h
  | c :: r, acc, p, h => by
    by_cases hp : pre S (c :: r) = true
    · rw [par_hit hp] at h
      cases h
      exact ⟨⟨0, by simp⟩, S.length, rfl⟩
    · rw [par_miss (by simpa using hp)] at h
      obtain ⟨⟨k, h1⟩, k', h2⟩ := par_parts r _ h
      exact ⟨⟨k + 1, by rw [h1]; simp⟩, k' + 1, by rw [h2]; rfl⟩
theorem part_sub {z y : Str} (hy : tl y ≠ []) : (∃ k, tl (Txt.partition z y).1 = (tl z).take k) ∧ (∃ k, tl (Txt.partition z y).2.2 = (tl z).drop k) := by
  have h := partition_par z y hy
  cases e : par (tl y) [] (tl z) with
  | none =>
    rw [e] at h
    have h : Txt.partition z y = (z, Str.empty, Str.empty) := h
    rw [h]
    exact ⟨⟨(tl z).length, by rw [List.take_length]⟩, (tl z).length, by rw [List.drop_length]; rfl⟩
  | some p =>
    rw [e] at h
    obtain ⟨⟨k, h1⟩, k', h2⟩ := par_parts _ _ e
    have h : Txt.partition z y = (⟨p.1.toArray⟩, y, ⟨p.2.toArray⟩) := h
    rw [h]
    exact ⟨⟨k, by rw [tl_mk, h1]; rfl⟩, k', by rw [tl_mk, h2]⟩
theorem Lo.head {z y : Str} (hy : tl y ≠ []) (h : Lo z) : Lo (Txt.partition z y).1 := by
  obtain ⟨⟨k, e⟩, _⟩ := part_sub (z := z) hy
  exact h.part (fun c hc => by rw [e] at hc; exact List.mem_of_mem_take hc) (by rw [len_tl, len_tl, e, List.length_take]; omega)
theorem Lo.rest {z y : Str} (hy : tl y ≠ []) (h : Lo z) : Lo (Txt.partition z y).2.2 := by
  obtain ⟨_, k, e⟩ := part_sub (z := z) hy
  exact h.part (fun c hc => by rw [e] at hc; exact List.mem_of_mem_drop hc) (by rw [len_tl, len_tl, e, List.length_drop]; omega)
theorem wName_le (z : Str) : (wName z).length ≤ z.length := by
  obtain ⟨⟨k, e⟩, _⟩ := part_sub (z := z) (y := ("[" : Str)) (by decide +kernel)
  unfold wName
  rw [len_tl, len_tl, e, List.length_take]
  omega
theorem Lo.split {z y p : Str} (h : Lo z) (hy : tl y ≠ []) (hl : ∀ p ∈ Txt.split z y, p.length ≤ z.length) (hp : p ∈ Txt.split z y) : Lo p :=
  h.part (fun c hc => Classical.byContradiction fun q => split_free hp q hc) (hl p hp)
/-! ### ways -/
def dMv (e : Stp) : PyData := .tuple [.bool e.bk, .str e.lk, .str e.tb]
def dFl (e : Stp) : PyData := .tuple (e.fl.map .str)
def stTb (es : List Stp) : Str := match es.head? with
  | some e => e.tb
  | none => ("" : Str)
def enTb (es : List Stp) : Str := match es.getLast? with
  | some e => e.tb
  | none => ("" : Str)
/-- a Way of the schema at s -/
def WayAt (K : PySem.W.Frag) (H : Hp) (x s : Addr) (es : List Stp) : Prop := ∃ dx a1 a2 a3 a4 : Addr,
  H x = some (.ins (He.ga K "Way") dx [(("schema" : Str), .ref s), (("start" : Str), .str (stTb es)), (("end" : Str), .str (enTb es)), (("tables" : Str), .ref a1), (("asked" : Str), .ref a2), (("steps" : Str), .ref a3), (("moves" : Str), .ref a4)]) ∧
  H a1 = some (.tup (es.map fun e => .str e.tb)) ∧ Dp K (tups H) (.ref a2) (.tuple (es.map dFl)) ∧ H a3 = some (.tup (es.tail.map fun e => .str e.nm)) ∧ Dp K (tups H) (.ref a4) (.tuple (es.tail.map dMv))
theorem WayAt.but {K : PySem.W.Frag} {H H' : Hp} {x s : Addr} {es : List Stp} (h : WayAt K H x s es) (e : ∀ b o, H b = some o → (∀ xs, o ≠ .lst xs) → H' b = some o) : WayAt K H' x s es := by
  obtain ⟨dx, a1, a2, a3, a4, h1, h2, h3, h4, h5⟩ := h
  have st : Same (tups H) (tups H') := tups_of fun a xs q => e _ _ q fun _ z => nomatch z
  exact ⟨dx, a1, a2, a3, a4, e _ _ h1 (fun _ z => nomatch z), e _ _ h2 (fun _ z => nomatch z), Dp.same st _ _ h3, e _ _ h4 (fun _ z => nomatch z), Dp.same st _ _ h5⟩
theorem WayAt.same {K : PySem.W.Frag} {H H' : Hp} {x s : Addr} {es : List Stp} (h : WayAt K H x s es) (e : Same H H') : WayAt K H' x s es := h.but fun b o q _ => e _ _ q
theorem WayAt.keep {K : PySem.W.Frag} {H H' : Hp} {p x s : Addr} {es : List Stp} {n : Nat} (h : WayAt K H x s es) (k : Keep p H H') (hp : PoolAt H p n) : WayAt K H' x s es := h.but fun b o q z => by
  obtain ⟨_, _, _, e, _⟩ := hp
  exact k _ _ (ne_of q e (z _)) q
/-! ### promises -/
def spRdF (K : PySem.W.Frag) : Sp := fun vs H Q _ => ∃ (x : Addr) (zz t z : Str) (ts : List Tab), vs = [.ref x, .str t, .str z] ∧ SchAt K H x zz ts ∧ TabsOk ts ∧ Lo t ∧ Lo z ∧ (readF ts t z = none → ∀ H', Same H H' → Q .non H') ∧
  ∀ fs, readF ts t z = some fs → ∀ H' a, Same H H' → H' a = some (.tup (fs.map V.str)) → Q (.ref a) H'
def spIsLk (K : PySem.W.Frag) : Sp := fun vs H Q _ => ∃ (x : Addr) (zz t y : Str) (ts : List Tab), vs = [.ref x, .str t, .str y] ∧ SchAt K H x zz ts ∧ TabsOk ts ∧ Lo t ∧ Lo y ∧ ∀ H', Same H H' → Q (.bl (isLk ts t y)) H'
def spRdM (K : PySem.W.Frag) : Sp := fun vs H Q _ => ∃ (x : Addr) (zz t z : Str) (ts : List Tab), vs = [.ref x, .str t, .str z] ∧ SchAt K H x zz ts ∧ TabsOk ts ∧ Lo t ∧ Lo z ∧ (readM ts t z = none → ∀ H', Same H H' → Q .non H') ∧
  ∀ m, readM ts t z = some m → ∀ H' a, Same H H' → H' a = some (.tup [.bl m.1, .str m.2.1, .str m.2.2]) → Q (.ref a) H'
def spSplW : Sp := fun vs H Q _ => ∃ z : Str, vs = [.str z] ∧ Lo z ∧ ∀ H' a, Same H H' → H' a = some (.tup [.str (wName z), .str (wRest z)]) → Q (.ref a) H'
/-- BadWay(i) is raised while the way at x is made -/
def xBW (K : PySem.W.Frag) (x : Addr) (i : Int) (H : Hp) (E : XK) : Prop := ∀ H' d, (∀ b o, b ≠ x → H b = some o → H' b = some o) → H' d = some (.xd [(("at" : Str), .int i)]) → E (.ref (He.ga K "BadWay")) (some d) H'
def spWay (K : PySem.W.Frag) : Sp := fun vs H Q E => ∃ (x s dx : Addr) (v : V) (zz : Str) (ts : List Tab), vs = [.ref x, .ref s, v] ∧ H x = some (.ins (He.ga K "Way") dx []) ∧ SchAt K H s zz ts ∧ TabsOk ts ∧
  ((∃ z, v = .str z ∧ Lo z ∧ (∀ i, readW ts (wsOf z) [] = .error i → xBW K x (i : Nat) H E) ∧
    ∀ es, readW ts (wsOf z) [] = .ok es → ∀ H', (∀ b o, b ≠ x → H b = some o → H' b = some o) → WayAt K H' x s es → Q .non H') ∨
   ∃ T, TyX K H v (.type T) ∧ PySem.W.kitOne K (.type T) (.type "str") = some false ∧ xBW K x (-1) H E)
/-- Way.of: a class, a schema, a tuple of words -/
def spWof (K : PySem.W.Frag) : Sp := fun vs H Q E => ∃ (s a : Addr) (zz : Str) (ts : List Tab) (ws : List Str), vs = [.ref (He.ga K "Way"), .ref s, .ref a] ∧ SchAt K H s zz ts ∧ TabsOk ts ∧ H a = some (.tup (ws.map V.str)) ∧ wt ws ≤ 100000 ∧ Lo (Txt.join (" " : Str) ws) ∧
  (∀ i, readW ts (wsOf (Txt.join (" " : Str) ws)) [] = .error i → ∀ H' d, Same H H' → H' d = some (.xd [(("at" : Str), .int (i : Nat))]) → E (.ref (He.ga K "BadWay")) (some d) H') ∧
  ∀ es, readW ts (wsOf (Txt.join (" " : Str) ws)) [] = .ok es → ∀ H' x, Same H H' → WayAt K H' x s es → Q (.ref x) H'
def spWlen (K : PySem.W.Frag) : Sp := fun vs H Q _ => ∃ (x s : Addr) (es : List Stp), vs = [.ref x] ∧ WayAt K H x s es ∧ Q (.int (es.tail.length : Nat)) H
def spStr8 (K : PySem.W.Frag) : Sp := fun vs H Q _ => ∃ (x s : Addr) (es : List Stp), vs = [.ref x] ∧ WayAt K H x s es ∧ es.length ≤ 13 ∧ Q (.bl (decide (V.int (metS (es.map Stp.tb)).length = V.int ((es.length : Nat) : Int)))) H
def spWrit (K : PySem.W.Frag) : Sp := fun vs H Q _ => ∃ (a b : Addr) (es : List Stp) (s0 : Str), vs = [.str s0, .ref a, .ref b] ∧ (∃ e r, es = e :: r ∧ e.nm = s0) ∧ es.length ≤ 13 ∧ (∀ e ∈ es, e.nm.length ≤ 1000 ∧ e.fl.length ≤ 6 ∧ ∀ f ∈ e.fl, f.length ≤ 8) ∧
  SqT K H a (es.tail.map fun e => .str e.nm) ∧ Dp K (tups H) (.ref b) (.tuple (es.map dFl)) ∧ ∀ H' q, Same H H' → H' q = some (.lst ((es.map (wordF false)).map V.str)) → Q (.ref q) H'
def spWstr (K : PySem.W.Frag) : Sp := fun vs H Q _ => ∃ (x s : Addr) (es : List Stp), vs = [.ref x] ∧ WayAt K H x s es ∧ (∃ e r, es = e :: r ∧ e.nm = e.tb) ∧ es.length ≤ 13 ∧ (∀ e ∈ es, e.nm.length ≤ 1000 ∧ e.fl.length ≤ 6 ∧ ∀ f ∈ e.fl, f.length ≤ 8) ∧
  ∀ H', Same H H' → Q (.str (Txt.join (" " : Str) (es.map (wordF false)))) H'
/-- what the top says of the class Way -/
structure WyS (K : PySem.W.Frag) (mg : Str → Option Value) : Prop where
  at_ : mg "Way" = some (.ref (He.ga K "Way"))
  cl : Cls K (He.ga K "Way")
  mak : ∃ f, Mk K (He.ga K "Way") f
  schema : NoAttr K (He.ga K "Way") "schema"
  start : NoAttr K (He.ga K "Way") "start"
  end_ : NoAttr K (He.ga K "Way") "end"
  tables : NoAttr K (He.ga K "Way") "tables"
  asked : NoAttr K (He.ga K "Way") "asked"
  steps : NoAttr K (He.ga K "Way") "steps"
  moves : NoAttr K (He.ga K "Way") "moves"
/-- .. and of the built-ins that ways call -/
structure WyC (mg : Str → Option Value) : Prop where
  set : mg "set" = none
  sorted : mg "sorted" = none
  zip : mg "zip" = none
  bool : mg "bool" = none
  most : ∃ t, mg "MOST_STEPS" = some (.int 12 t)
end Ow

/-! Ow.Z4: rules with K explicit -/
namespace Ow
open PySem PySem.Spec PyProof.Rows L2 TL
section
variable {X : Cx} {K : PySem.W.Frag}
def tTru (K : PySem.W.Frag) (ta : TE) : TT := fun σ H Q => ta σ H fun x H' => ∃ k, TruV K x H' k ∧ Q k H'
theorem pt_truthK {a : Expr} {ta : TE} (ha : PE X a ta) (he : ∀ whole, isTrue a X.env whole = (do let v ← whole; standAt a.pos; holding [v] (truthy v))) (hK : X.K = K := by rfl) : PT X a (tTru K ta) := by
  subst hK
  exact pt_truth ha he
def rJoin (K : PySem.W.Frag) : V → List V → Hp → VK → Prop := fun x xs H Q => ∃ a p, ∃ ys : List Str, x = .str a ∧ xs = [.ref p] ∧ (SqL K H p (ys.map V.str) ∨ SqT K H p (ys.map V.str)) ∧
      (ys.map (·.length)).sum + ys.length * a.length ≤ 16777216 ∧ Q (.str (Txt.join a ys)) H
theorem pe_joinK {o e : Expr} {to te : TE} {apos pos : Pos} (ho : PE X o to) (he : PE X e te) (hK : X.K = K := by rfl) (hs : starEach [e] X.env = [(false, eval e X.env)] := by rfl) (hbase : attributeBase o "join" X.env (eval o X.env) = eval o X.env := by rfl) (hline : (apos.endLine == pos.line) = true := by rfl) :
    PE X (.Call (.Attribute o "join" apos) [e] [] pos) (tM1 (rJoin K) to te) := by
  subst hK
  exact pe_join ho he hs hbase hline
theorem pe_revLK {e : Expr} {te : TE} {k : Nat} {p1 p2 p3 pos : Pos} (he : PE X e te) (hK : X.K = K := by rfl) : PE X (.Subscript e (.Slice none none (some (.UnaryOp .USub (.Constant (.int 1) k p1) p2)) p3) pos) (tRevL K te) := by
  subst hK
  exact pe_revL he
theorem op_neDK (hu : X.A.units + 64 < cLine) (hK : X.K = K := by rfl) : OpR X (compareOp .NotEq) (rNeD K) := by
  subst hK
  exact op_neD hu
end
end Ow

/-! Ow.Z5: the law's ways: promises -/
namespace Ow
open PySem PySem.Spec PyProof.Rows L2 TL
def dMove (e : Stp) : PyData := .tuple [.str e.nm, .str e.tb, .bool e.bk, .str e.lk]
def dStp (e : Stp) : PyData := .tuple [.str e.nm, .str e.tb, .bool e.bk, .str e.lk, .list (e.fl.map .str)]
def dWay (es : List Stp) : PyData := .list (es.map dStp)
def mvF (c : Col) : Stp := ⟨c.name, oS c.tgt, false, c.name, []⟩
def mvB (u : Str) (c : Col) : Stp := ⟨("~" : Str) ++ u ++ ("." : Str) ++ c.name, u, true, c.name, []⟩
def lkTo (t : Str) (c : Col) : Bool := decide (c.kind = ("link" : Str)) && decide (c.tgt = some t)
def isL (c : Col) : Bool := decide (c.kind = ("link" : Str))
/-- the moves from a table -/
def mvs (ts : List Tab) (t : Str) (cs : List Col) : List Stp := (cs.filter isL).map mvF ++ ts.flatMap fun u => (u.2.filter (lkTo t)).map (mvB u.1)
theorem mvs_ok {ts : List Tab} (ok : TabsOk ts) {t : Str} {cs : List Col} (h : tabAt ts t = some cs) {e : Stp} (he : e ∈ mvs ts t cs) : MvOk ts t e := by
  rcases List.mem_append.mp he with q | q
  · obtain ⟨c, hc, rfl⟩ := List.mem_map.mp q
    obtain ⟨hc1, hc2⟩ := List.mem_filter.mp hc
    have hk : c.kind = ("link" : Str) := of_decide_eq_true hc2
    have tok := ok.tab _ (tabAt_mem h)
    have co := tok.cols c hc1
    refine ⟨c, .inl ⟨rfl, rfl, ?_, hk, ?_⟩⟩
    · unfold colIn
      rw [h]
      exact colAt_nodup tok.nd hc1
    · rcases co.k with ⟨_, t', r', k1, _⟩ | ⟨k1, _⟩
      · show c.tgt = some (oS c.tgt)
        rw [k1]
        rfl
      · rcases k1 with z | z <;> rw [z] at hk <;> exact absurd hk (by decide)
  · obtain ⟨u, hu, q⟩ := List.mem_flatMap.mp q
    obtain ⟨c, hc, rfl⟩ := List.mem_map.mp q
    obtain ⟨hc1, hc2⟩ := List.mem_filter.mp hc
    unfold lkTo at hc2
    rw [Bool.and_eq_true] at hc2
    have tok := ok.tab _ hu
    refine ⟨c, .inr ⟨rfl, rfl, ?_, of_decide_eq_true hc2.1, of_decide_eq_true hc2.2⟩⟩
    unfold colIn
    rw [show (mvB u.1 c).tb = u.1 from rfl, tabAt_nodup ok.nd (show (u.1, u.2) ∈ ts from hu)]
    exact colAt_nodup tok.nd hc1
def spText (K : PySem.W.Frag) : Sp := fun vs H Q _ => ∃ (l : Addr) (ts : List Tab), vs = [.ref l] ∧ Dp K H (.ref l) (dTabs ts) ∧ TabsOk ts ∧ ∀ H', Same H H' → Q (.str (Txt.join ("\n" : Str) (linesOf ts))) H'
def spCols (K : PySem.W.Frag) : Sp := fun vs H Q _ => ∃ (l : Addr) (t : Str) (ts : List Tab) (cs : List Col) (B : Hp), vs = [.ref l, .str t] ∧ Same B H ∧ Dp K B (.ref l) (dTabs ts) ∧ TabsOk ts ∧ tabAt ts t = some cs ∧
  ∀ H' c, Same H H' → Dp K B (.ref c) (.list (cs.map dCol)) → Q (.ref c) H'
def spMvs (K : PySem.W.Frag) : Sp := fun vs H Q _ => ∃ (l : Addr) (t : Str) (ts : List Tab) (cs : List Col), vs = [.ref l, .str t] ∧ Dp K H (.ref l) (dTabs ts) ∧ TabsOk ts ∧ tabAt ts t = some cs ∧
  ∀ H' q xs, Same H H' → H q = none → H' q = some (.lst xs) → DpAll K (tups H') xs ((mvs ts t cs).map dMove) → Q (.ref q) H'
def spAsk (K : PySem.W.Frag) : Sp := fun vs H Q _ => ∃ (p l : Addr) (t : Str) (o n : Nat) (ts : List Tab) (cs : List Col), vs = [.ref p, .ref l, .str t, .int (o : Int)] ∧ PoolAt H p n ∧ n < 2 ^ 50 ∧ Dp K (less p H) (.ref l) (dTabs ts) ∧ TabsOk ts ∧ tabAt ts t = some cs ∧ 1 ≤ o ∧ o ≤ 1000 ∧
  ∀ H' q fs, Keep p H H' → PoolAt H' p (n + 6) → H q = none → H' q = some (.lst (fs.map V.str)) → FlOk ts t fs → Q (.ref q) H'
def spLway (K : PySem.W.Frag) : Sp := fun vs H Q _ => ∃ (p l : Addr) (st : Str) (m o n : Nat) (ts : List Tab), vs = [.ref p, .ref l, .str st, .int (m : Int), .int (o : Int)] ∧ PoolAt H p n ∧ n < 2 ^ 40 ∧ Dp K (less p H) (.ref l) (dTabs ts) ∧ TabsOk ts ∧ st ∈ ts.map Prod.fst ∧ m ≤ 12 ∧ 1 ≤ o ∧ o ≤ 1000 ∧
  ∀ H' q es, Keep p H H' → PoolAt H' p (n + 1000) → H q = none → Dp K (less p H') (.ref q) (dWay es) → WayOk ts es → es.length ≤ m + 1 → Q (.ref q) H'
def spLwr (K : PySem.W.Frag) : Sp := fun vs H Q _ => ∃ (l : Addr) (ts : List Tab) (es : List Stp), vs = [.ref l] ∧ Dp K H (.ref l) (dWay es) ∧ TabsOk ts ∧ WayOk ts es ∧ es.length ≤ 13 ∧ ∀ H' q, Same H H' → H' q = some (.lst ((es.map (wordF false)).map V.str)) → Q (.ref q) H'
def spWtold (K : PySem.W.Frag) : Sp := fun vs H Q _ => ∃ (x s l : Addr) (zz : Str) (ts : List Tab) (es : List Stp), vs = [.ref x, .ref s, .ref l] ∧ WayAt K H x s es ∧ SchAt K H s zz ts ∧ TabsOk ts ∧ Dp K H (.ref l) (dWay es) ∧ WayOk ts es ∧ es.length ≤ 13 ∧ ∀ H', Same H H' → Q (.bl true) H'
end Ow

/-! Ow.H: the Hook with properties and classmethods -/
namespace Ow
open PySem PySem.Spec PyProof.Rows L2
/-- the def that a property, a classmethod at a holds -/
def rcA (K : PySem.W.Frag) (T : String) (a : Addr) : Addr := match PySem.W.recIn K a T with
  | some (.ref g :: _) => g
  | _ => 0
def rcB (K : PySem.W.Frag) (T : String) (a : Addr) : Bool := match PySem.W.recIn K a T with
  | some (.ref _ :: _) => true
  | _ => false
theorem rcB_ok {K : PySem.W.Frag} {T : String} {a : Addr} (h : rcB K T a = true) : ∃ rest, PySem.W.recIn K a T = some (.ref (rcA K T a) :: rest) := by
  unfold rcB at h
  unfold rcA
  split at h
  · rename_i g rest e
    rw [e]
    exact ⟨rest, rfl⟩
  · cases h
structure PthD where
  kind : String
  cls : Str
  name : Str
  qual : Str
  st : Stmt
def PthD.ad (d : PthD) (K : PySem.W.Frag) : Addr := rcA K d.kind (He.ma K (He.ga K d.cls) d.name)
def fnP (K : PySem.W.Frag) (a : Addr) : He.FnW := match K.lookup a with
  | some ⟨_, _, .func fd, _⟩ => some (fd.name, fd.qualname, fd.params, fd.body, fd.scope, fd.globals, fd.closure, fd.builtins)
  | _ => none
def PthD.val (d : PthD) : He.FnW := some (d.name, d.qual, defArgs d.st, .stmts (defBody d.st), defScope d.st, mainGlobals, [], builtinsNs)
def PthD.ok (K : PySem.W.Frag) (d : PthD) : Bool := PySem.W.keepIn K (.ref (d.ad K)) && (match K.lookup (d.ad K) with
  | some ⟨_, _, .func fd, _⟩ => PySem.W.codeIn K fd.code d.qual && (He.dflB K fd.defaults [] && He.kwdB K fd.kwdefaults [])
  | _ => false)
theorem PthD.funD {K : PySem.W.Frag} {d : PthD} (e : fnP K (d.ad K) = d.val) (c : d.ok K = true) : ∃ fd, MtP K d.name d.qual d.st (d.ad K) fd := by
  obtain ⟨kp, c2⟩ := He.ba c
  unfold fnP at e
  cases q : K.lookup (d.ad K) with
  | none =>
    rw [q] at c2
    cases c2
  | some o =>
    obtain ⟨oc, od, dt, osl⟩ := o
    rw [q] at c2 e
    cases dt with
    | func fd =>
      obtain ⟨n1, n2, n3, n4, n5, n6, n7, n8, n9, n10, n11, n12, n13, n14, n15⟩ := fd
      have e2 : (some (n1, n2, n3, n4, n5, n6, n7, n15) : He.FnW) = some (d.name, d.qual, defArgs d.st, .stmts (defBody d.st), defScope d.st, mainGlobals, [], builtinsNs) := e
      simp only [Option.some.injEq, Prod.mk.injEq] at e2
      obtain ⟨h1, h2, h3, h4, h5, h6, h7, h8⟩ := e2
      subst h1 h2 h3 h4 h5 h6 h7 h8
      have c3 : (PySem.W.codeIn K n13 d.qual && (He.dflB K n8 [] && He.kwdB K n9 [])) = true := c2
      obtain ⟨k1, k2⟩ := He.ba c3
      obtain ⟨k3, k4⟩ := He.ba k2
      exact ⟨_, ⟨oc, od, n8, n9, n10, n11, n12, n13, n14, osl, rfl, q, k1, He.dflB_ok k3, He.kwdB_ok k4⟩, kp⟩
    | _ => cases c2
/-! ### what a property, a classmethod needs -/
def prB (K : PySem.W.Frag) (d : PthD) : Bool := decide (PySem.W.findIn K (.ref (He.ga K d.cls)) d.name = some (some (.ref (He.ma K (He.ga K d.cls) d.name)))) && (decide (PySem.W.specialIn K (.ref (He.ma K (He.ga K d.cls) d.name)) "__get__" = some (some (.builtin "property.__get__"))) &&
  (decide (PySem.W.takesIn K (.ref (He.ma K (He.ga K d.cls) d.name)) = some true) && (rcB K "property" (He.ma K (He.ga K d.cls) d.name) && (decide (d.kind = "property") && d.ok K))))
theorem prB_ok {K : PySem.W.Frag} {d : PthD} (h : prB K d = true) (e : fnP K (d.ad K) = d.val) : PrD K d.cls d.name d.qual d.st := by
  obtain ⟨h1, h⟩ := He.ba h
  obtain ⟨h2, h⟩ := He.ba h
  obtain ⟨h3, h⟩ := He.ba h
  obtain ⟨h4, h⟩ := He.ba h
  obtain ⟨h5, h6⟩ := He.ba h
  obtain ⟨fd, F⟩ := PthD.funD e h6
  obtain ⟨rest, hr⟩ := rcB_ok h4
  have ek : d.kind = "property" := of_decide_eq_true h5
  refine ⟨He.ma K (He.ga K d.cls) d.name, d.ad K, fd, F, of_decide_eq_true h1, of_decide_eq_true h2, of_decide_eq_true h3, rest, ?_⟩
  unfold PthD.ad
  rw [ek]
  exact hr
def cfB (o : Option PySem.W.CFound) (p C : Addr) : Bool := match o with
  | some (.get (.builtin s) (.ref a) .none (.ref b)) => decide (s = "classmethod.__get__") && (decide (a = p) && decide (b = C))
  | _ => false
theorem cfB_ok {o : Option PySem.W.CFound} {p C : Addr} (h : cfB o p C = true) : o = some (.get (.builtin "classmethod.__get__") (.ref p) .none (.ref C)) := by
  unfold cfB at h
  split at h
  · obtain ⟨h1, h⟩ := He.ba h
    obtain ⟨h2, h3⟩ := He.ba h
    rw [of_decide_eq_true h1, of_decide_eq_true h2, of_decide_eq_true h3]
  · cases h
def cmB (K : PySem.W.Frag) (d : PthD) : Bool := PySem.W.readsIn K (He.ga K d.cls) (.type "type") && (decide (PySem.W.specialIn K (.ref (He.ga K d.cls)) "__getattribute__" = some (some (.builtin "type.__getattribute__"))) &&
  (cfB (PySem.W.findCls K (.ref (He.ga K d.cls)) (.type "type") d.name) (He.ma K (He.ga K d.cls) d.name) (He.ga K d.cls) && (rcB K "classmethod" (He.ma K (He.ga K d.cls) d.name) && (PySem.W.fnIn K (d.ad K) && (decide (d.kind = "classmethod") && d.ok K)))))
theorem cmB_ok {K : PySem.W.Frag} {d : PthD} (h : cmB K d = true) (e : fnP K (d.ad K) = d.val) : CmD K d.cls d.name d.qual d.st := by
  obtain ⟨h1, h⟩ := He.ba h
  obtain ⟨h2, h⟩ := He.ba h
  obtain ⟨h3, h⟩ := He.ba h
  obtain ⟨h4, h⟩ := He.ba h
  obtain ⟨h5, h⟩ := He.ba h
  obtain ⟨h6, h7⟩ := He.ba h
  obtain ⟨fd, F⟩ := PthD.funD e h7
  obtain ⟨rest, hr⟩ := rcB_ok h4
  have ek : d.kind = "classmethod" := of_decide_eq_true h6
  refine ⟨.type "type", He.ma K (He.ga K d.cls) d.name, d.ad K, fd, F, ⟨h1, of_decide_eq_true h2⟩, cfB_ok h3, ⟨rest, ?_⟩, h5⟩
  unfold PthD.ad
  rw [ek]
  exact hr
/-! ### the Hook -/
abbrev AlP : Type := AlO × List He.FnW
def obsP (n : Nat) (fa : List He.Fa) (fn : List He.DefD) (mt : List MthD) (pt : List PthD) (ex : PySem.W.Frag → Bool) (g : Addr → Option Obj) : AlP :=
  (obsO n fa fn mt ex g, pt.map fun d => fnP (He.frG g (asO g n)) (d.ad (He.frG g (asO g n))))
def valP (fn : List He.DefD) (mt : List MthD) (pt : List PthD) : AlP := (valO fn mt, pt.map PthD.val)
structure SaysP (fa : List He.Fa) (fn : List He.DefD) (mt : List MthD) (pt : List PthD) (ex : PySem.W.Frag → Bool) (K : PySem.W.Frag) : Prop where
  o : SaysO fa fn mt ex K
  p : pt.map (fun d => fnP K (d.ad K)) = pt.map PthD.val
def hookP (n : Nat) (fa : List He.Fa) (fn : List He.DefD) (mt : List MthD) (pt : List PthD) (ex : PySem.W.Frag → Bool) : PySem.W.Hook where
  α := AlP
  obs := fun s => obsP n fa fn mt pt ex s.heap.get?
  val := fun _ => valP fn mt pt
  says := fun _ h => ∃ K : PySem.W.Frag, K.In h ∧ SaysP fa fn mt pt ex K
  of := fun _ _ e => ⟨_, He.frG_in, ⟨congrArg (fun z : AlP => z.1.1) e, congrArg (fun z : AlP => z.1.2.1) e, congrArg (fun z : AlP => z.1.2.2) e⟩, congrArg (fun z : AlP => z.2) e⟩
  keeps := fun _ _ _ ⟨K, hK, c⟩ k => ⟨K, PySem.W.Frag.In.keeps hK k, c⟩
theorem obsP_eq {n : Nat} {fa : List He.Fa} {fn : List He.DefD} {mt : List MthD} {pt : List PthD} {ex : PySem.W.Frag → Bool} {g : Addr → Option Obj} {s : Shared} (h : ∀ a, g a = s.heap.get? a) : obsP n fa fn mt pt ex g = (hookP n fa fn mt pt ex).obs s := by
  have e : g = s.heap.get? := funext h
  rw [e] <;> rfl
theorem SaysP.pth {fa : List He.Fa} {fn : List He.DefD} {mt : List MthD} {pt : List PthD} {ex : PySem.W.Frag → Bool} {K : PySem.W.Frag} (c : SaysP fa fn mt pt ex K) {d : PthD} (h : d ∈ pt) : fnP K (d.ad K) = d.val := by
  have e := c.p
  rw [List.map_inj_left] at e
  exact e d h
theorem SaysP.d {fa : List He.Fa} {fn : List He.DefD} {mt : List MthD} {pt : List PthD} {ex : PySem.W.Frag → Bool} {K : PySem.W.Frag} (c : SaysP fa fn mt pt ex K) : He.SaysD fa fn K := c.o.d
theorem SaysP.x {fa : List He.Fa} {fn : List He.DefD} {mt : List MthD} {pt : List PthD} {ex : PySem.W.Frag → Bool} {K : PySem.W.Frag} (c : SaysP fa fn mt pt ex K) : ex K = true := c.o.x
theorem SaysP.mth {fa : List He.Fa} {fn : List He.DefD} {mt : List MthD} {pt : List PthD} {ex : PySem.W.Frag → Bool} {K : PySem.W.Frag} (c : SaysP fa fn mt pt ex K) {d : MthD} (h : d ∈ mt) : fnC K (He.ma K (He.ga K d.cls) d.name) = d.val := c.o.mth h
end Ow

/-! k18: the text by places -/
namespace Ow
open PySem PySem.Spec L2
abbrev Pr : Program := PySem.Challenge.pw_owedrebuilds_k18_ways_read
def top (i : Nat) : Stmt := Pr.main.body.getD i (.Pass ⟨0, 0, 0, 0⟩)
abbrev s_wall : Stmt := top 0
abbrev s_BadSchema___init__ : Stmt := inClass (top 3) 0
abbrev s_NoTable___init__ : Stmt := inClass (top 4) 0
abbrev s_NoColumn___init__ : Stmt := inClass (top 5) 0
abbrev s_TooMany___init__ : Stmt := inClass (top 6) 0
abbrev s_BadWay___init__ : Stmt := inClass (top 7) 0
abbrev s_Mismatch___init__ : Stmt := inClass (top 8) 0
abbrev s_is_word : Stmt := top 18
abbrev s_named_tables : Stmt := top 19
abbrev s_column_of : Stmt := top 20
abbrev s_read_tables : Stmt := top 21
abbrev s_Schema___init__ : Stmt := inClass (top 22) 0
abbrev s_Schema_columns : Stmt := inClass (top 22) 1
abbrev s_Schema_told : Stmt := inClass (top 22) 2
abbrev s_Schema_kind : Stmt := inClass (top 22) 3
abbrev s_Schema_target : Stmt := inClass (top 22) 4
abbrev s_Schema_rule : Stmt := inClass (top 22) 5
abbrev s_Schema_links_to : Stmt := inClass (top 22) 6
abbrev s_Schema___contains__ : Stmt := inClass (top 22) 7
abbrev s_Schema___len__ : Stmt := inClass (top 22) 8
abbrev s_Schema___eq__ : Stmt := inClass (top 22) 9
abbrev s_Schema___str__ : Stmt := inClass (top 22) 10
abbrev s_empty_cell : Stmt := top 24
abbrev s_empty_cells : Stmt := top 25
abbrev s_read_flags : Stmt := top 28
abbrev s_is_link : Stmt := top 29
abbrev s_read_move : Stmt := top 30
abbrev s_split_word : Stmt := top 31
abbrev s_Way___init__ : Stmt := inClass (top 32) 0
abbrev s_Way_of : Stmt := inClass (top 32) 1
abbrev s_Way_is_straight : Stmt := inClass (top 32) 2
abbrev s_Way___len__ : Stmt := inClass (top 32) 3
abbrev s_Way___str__ : Stmt := inClass (top 32) 4
abbrev s_Way___call__ : Stmt := inClass (top 32) 5
abbrev s_Way_trails : Stmt := inClass (top 32) 6
abbrev s_Way_first_trail : Stmt := inClass (top 32) 7
abbrev s_Way_is_trail : Stmt := inClass (top 32) 8
abbrev s_Way___rshift__ : Stmt := inClass (top 32) 9
abbrev s_Way___invert__ : Stmt := inClass (top 32) 10
abbrev s_Way___contains__ : Stmt := inClass (top 32) 11
abbrev s_Way___eq__ : Stmt := inClass (top 32) 12
abbrev s_Way_asking : Stmt := inClass (top 32) 13
abbrev s_Way_beginning : Stmt := inClass (top 32) 14
abbrev s_written : Stmt := top 33
abbrev s_undone : Stmt := top 34
abbrev s_by_tables : Stmt := top 35
abbrev s_visited : Stmt := top 36
abbrev s_moved : Stmt := top 37
abbrev s_levels : Stmt := top 38
abbrev s_grown : Stmt := top 39
abbrev s_flagged : Stmt := top 40
abbrev s_least_rows : Stmt := top 41
abbrev s_law_pool : Stmt := top 43
abbrev s_law_draw : Stmt := top 44
abbrev s_law_of : Stmt := top 45
abbrev s_law_letters : Stmt := top 46
abbrev s_law_word : Stmt := top 47
abbrev s_law_tables : Stmt := top 48
abbrev s_law_text : Stmt := top 49
abbrev s_law_columns : Stmt := top 50
abbrev s_law_moves : Stmt := top 51
abbrev s_law_asked : Stmt := top 52
abbrev s_law_way : Stmt := top 53
abbrev s_law_written : Stmt := top 54
abbrev s_law_is_told : Stmt := top 55
abbrev s_law : Stmt := top 56
end Ow

/-! k18: what the top has left -/
namespace Ow
open PySem PySem.Spec L2 NdefX
def fa1 : List He.Fa := [.free "len", .free "abs", .free "int", .free "range", .free "max", .free "min", .free "isinstance", .free "tuple", .free "repr", .free "all", .free "enumerate", .free "str"]
def fa2 : List He.Fa := [.free "any", .free "list", .free "super", .free "ValueError", .free "set", .free "sorted", .free "zip", .free "bool"]
def fa3 : List He.Fa := [.glo "is_word", .glo "named_tables", .glo "column_of", .glo "read_tables", .glo "read_flags", .glo "is_link", .glo "read_move", .glo "split_word", .glo "written", .glo "_law_pool", .glo "_law_draw", .glo "_law_of"]
def fa4 : List He.Fa := [.glo "_law_letters", .glo "_law_word", .glo "_law_tables", .glo "_law_text", .glo "_law_columns", .glo "_law_moves", .glo "_law_asked", .glo "_law_way", .glo "_law_written", .glo "_law_is_told", .glo "law"]
def fa5 : List He.Fa := [.glo "Schema", .cls "Schema", .mkr "Schema", .noat "Schema" "text", .noat "Schema" "found", .noat "Schema" "tables", .str "LETTERS" LET, .int "MOST_TABLES" 5, .int "MOST_COLUMNS" 6, .str "VALUE" ("value" : Str), .str "FLAG" ("flag" : Str), .str "LINK" ("link" : Str)]
def fa6 : List He.Fa := [.glo "BARRED", .glo "RULES", .int "MOST_STEPS" 12, .glo "Way", .cls "Way", .mkr "Way", .noat "Way" "schema", .noat "Way" "start", .noat "Way" "end", .noat "Way" "tables", .noat "Way" "asked", .noat "Way" "steps"]
def fa7 : List He.Fa := [.noat "Way" "moves"]
def fa8 : List He.Fa := [.meth "Schema" "__init__", .meth "Schema" "columns", .meth "Schema" "told", .meth "Schema" "kind", .meth "Schema" "target", .meth "Schema" "rule", .meth "Schema" "__len__", .meth "Schema" "__str__", .meth "Schema" "__eq__", .meth "Schema" "__contains__", .meth "Way" "__init__", .meth "Way" "__len__"]
def fa9 : List He.Fa := [.meth "Way" "__str__"]
def fa10 : List He.Fa := [.glo "OwedError", .glo "BadWay"]
def fa : List He.Fa := fa1 ++ (fa2 ++ (fa3 ++ (fa4 ++ (fa5 ++ (fa6 ++ (fa7 ++ (fa8 ++ (fa9 ++ (fa10)))))))))
def d_is_word : He.DefD := ⟨("is_word", none), "is_word", "is_word", defArgs s_is_word, defBody s_is_word, defScope s_is_word, [], []⟩
def d_named_tables : He.DefD := ⟨("named_tables", none), "named_tables", "named_tables", defArgs s_named_tables, defBody s_named_tables, defScope s_named_tables, [], []⟩
def d_column_of : He.DefD := ⟨("column_of", none), "column_of", "column_of", defArgs s_column_of, defBody s_column_of, defScope s_column_of, [], []⟩
def d_read_tables : He.DefD := ⟨("read_tables", none), "read_tables", "read_tables", defArgs s_read_tables, defBody s_read_tables, defScope s_read_tables, [], []⟩
def d_read_flags : He.DefD := ⟨("read_flags", none), "read_flags", "read_flags", defArgs s_read_flags, defBody s_read_flags, defScope s_read_flags, [], []⟩
def d_is_link : He.DefD := ⟨("is_link", none), "is_link", "is_link", defArgs s_is_link, defBody s_is_link, defScope s_is_link, [], []⟩
def d_read_move : He.DefD := ⟨("read_move", none), "read_move", "read_move", defArgs s_read_move, defBody s_read_move, defScope s_read_move, [], []⟩
def d_split_word : He.DefD := ⟨("split_word", none), "split_word", "split_word", defArgs s_split_word, defBody s_split_word, defScope s_split_word, [], []⟩
def d_written : He.DefD := ⟨("written", none), "written", "written", defArgs s_written, defBody s_written, defScope s_written, [], []⟩
def d_law_pool : He.DefD := ⟨("_law_pool", none), "_law_pool", "_law_pool", defArgs s_law_pool, defBody s_law_pool, defScope s_law_pool, [], []⟩
def d_law_draw : He.DefD := ⟨("_law_draw", none), "_law_draw", "_law_draw", defArgs s_law_draw, defBody s_law_draw, defScope s_law_draw, [], []⟩
def d_law_of : He.DefD := ⟨("_law_of", none), "_law_of", "_law_of", defArgs s_law_of, defBody s_law_of, defScope s_law_of, [], []⟩
def d_law_letters : He.DefD := ⟨("_law_letters", none), "_law_letters", "_law_letters", defArgs s_law_letters, defBody s_law_letters, defScope s_law_letters, [], []⟩
def d_law_word : He.DefD := ⟨("_law_word", none), "_law_word", "_law_word", defArgs s_law_word, defBody s_law_word, defScope s_law_word, [], []⟩
def d_law_tables : He.DefD := ⟨("_law_tables", none), "_law_tables", "_law_tables", defArgs s_law_tables, defBody s_law_tables, defScope s_law_tables, [], []⟩
def d_law_text : He.DefD := ⟨("_law_text", none), "_law_text", "_law_text", defArgs s_law_text, defBody s_law_text, defScope s_law_text, [], []⟩
def d_law_columns : He.DefD := ⟨("_law_columns", none), "_law_columns", "_law_columns", defArgs s_law_columns, defBody s_law_columns, defScope s_law_columns, [], []⟩
def d_law_moves : He.DefD := ⟨("_law_moves", none), "_law_moves", "_law_moves", defArgs s_law_moves, defBody s_law_moves, defScope s_law_moves, [], []⟩
def d_law_asked : He.DefD := ⟨("_law_asked", none), "_law_asked", "_law_asked", defArgs s_law_asked, defBody s_law_asked, defScope s_law_asked, [], []⟩
def d_law_way : He.DefD := ⟨("_law_way", none), "_law_way", "_law_way", defArgs s_law_way, defBody s_law_way, defScope s_law_way, [], []⟩
def d_law_written : He.DefD := ⟨("_law_written", none), "_law_written", "_law_written", defArgs s_law_written, defBody s_law_written, defScope s_law_written, [], []⟩
def d_law_is_told : He.DefD := ⟨("_law_is_told", none), "_law_is_told", "_law_is_told", defArgs s_law_is_told, defBody s_law_is_told, defScope s_law_is_told, [], []⟩
def d_law : He.DefD := ⟨("law", none), "law", "law", defArgs s_law, defBody s_law, defScope s_law, [], []⟩
def d_Schema___init__ : He.DefD := ⟨("Schema", some "__init__"), "__init__", "Schema.__init__", defArgs s_Schema___init__, defBody s_Schema___init__, defScope s_Schema___init__, [], []⟩
def d_Schema_columns : He.DefD := ⟨("Schema", some "columns"), "columns", "Schema.columns", defArgs s_Schema_columns, defBody s_Schema_columns, defScope s_Schema_columns, [], []⟩
def d_Schema_told : He.DefD := ⟨("Schema", some "told"), "told", "Schema.told", defArgs s_Schema_told, defBody s_Schema_told, defScope s_Schema_told, [], []⟩
def d_Schema_kind : He.DefD := ⟨("Schema", some "kind"), "kind", "Schema.kind", defArgs s_Schema_kind, defBody s_Schema_kind, defScope s_Schema_kind, [], []⟩
def d_Schema_target : He.DefD := ⟨("Schema", some "target"), "target", "Schema.target", defArgs s_Schema_target, defBody s_Schema_target, defScope s_Schema_target, [], []⟩
def d_Schema_rule : He.DefD := ⟨("Schema", some "rule"), "rule", "Schema.rule", defArgs s_Schema_rule, defBody s_Schema_rule, defScope s_Schema_rule, [], []⟩
def d_Schema___len__ : He.DefD := ⟨("Schema", some "__len__"), "__len__", "Schema.__len__", defArgs s_Schema___len__, defBody s_Schema___len__, defScope s_Schema___len__, [], []⟩
def d_Schema___str__ : He.DefD := ⟨("Schema", some "__str__"), "__str__", "Schema.__str__", defArgs s_Schema___str__, defBody s_Schema___str__, defScope s_Schema___str__, [], []⟩
def d_Schema___eq__ : He.DefD := ⟨("Schema", some "__eq__"), "__eq__", "Schema.__eq__", defArgs s_Schema___eq__, defBody s_Schema___eq__, defScope s_Schema___eq__, [], []⟩
def d_Schema___contains__ : He.DefD := ⟨("Schema", some "__contains__"), "__contains__", "Schema.__contains__", defArgs s_Schema___contains__, defBody s_Schema___contains__, defScope s_Schema___contains__, [], []⟩
def d_Way___init__ : He.DefD := ⟨("Way", some "__init__"), "__init__", "Way.__init__", defArgs s_Way___init__, defBody s_Way___init__, defScope s_Way___init__, [], []⟩
def d_Way___len__ : He.DefD := ⟨("Way", some "__len__"), "__len__", "Way.__len__", defArgs s_Way___len__, defBody s_Way___len__, defScope s_Way___len__, [], []⟩
def d_Way___str__ : He.DefD := ⟨("Way", some "__str__"), "__str__", "Way.__str__", defArgs s_Way___str__, defBody s_Way___str__, defScope s_Way___str__, [], []⟩
def fn1 : List He.DefD := [d_is_word, d_named_tables, d_column_of, d_read_tables, d_read_flags, d_is_link, d_read_move, d_split_word, d_written, d_law_pool, d_law_draw, d_law_of]
def fn2 : List He.DefD := [d_law_letters, d_law_word, d_law_tables, d_law_text, d_law_columns, d_law_moves, d_law_asked, d_law_way, d_law_written, d_law_is_told, d_law, d_Schema___init__]
def fn3 : List He.DefD := [d_Schema_columns, d_Schema_told, d_Schema_kind, d_Schema_target, d_Schema_rule, d_Schema___len__, d_Schema___str__, d_Schema___eq__, d_Schema___contains__, d_Way___init__, d_Way___len__, d_Way___str__]
def fn : List He.DefD := fn1 ++ (fn2 ++ (fn3))
def m_BadWay : MthD := ⟨"BadWay", "__init__", "BadWay.__init__", s_BadWay___init__⟩
def mt : List MthD := [m_BadWay]
def p_Way_is_straight : PthD := ⟨"property", "Way", "is_straight", "Way.is_straight", s_Way_is_straight⟩
def p_Way_of : PthD := ⟨"classmethod", "Way", "of", "Way.of", s_Way_of⟩
def pt : List PthD := [p_Way_is_straight, p_Way_of]
def insB (K : PySem.W.Frag) : Bool := decide (PySem.W.findIn K (.ref (He.ga K "Schema")) "__class__" = some (some (.builtin "object.__class__"))) && (decide (PySem.W.specialIn K (.builtin "object.__class__") "__get__" = some (some (.builtin "getset_descriptor.__get__"))) &&
  (decide (PySem.W.takesIn K (.builtin "object.__class__") = some true) && (decide (PySem.W.mroIn K (He.ga K "Schema") (.type "object") = some true) && decide (PySem.W.kitOne K (.ref (He.ga K "Schema")) (.ref (He.ga K "Schema")) = some true))))
def othB (K : PySem.W.Frag) : Bool := ["NoneType", "str", "int", "tuple"].all fun T => decide (PySem.W.kitOne K (.type T) (.ref (He.ga K "Schema")) = some false) && PySem.W.notFirst K (He.ga K "Schema") (.type T)
def neB (K : PySem.W.Frag) : Bool := decide (PySem.W.findIn K (.ref (He.ga K "Schema")) "__ne__" = some (some (.builtin "object.__ne__"))) && decide (PySem.W.subIn K (.ref (He.ga K "Schema")) (.type "object") = some true)
def tupsB (K : PySem.W.Frag) : Bool := He.tupB K "BARRED" [.str ("key" : Str), .str ("self" : Str), .str ("table" : Str)] && He.tupB K "RULES" [.str ("refuse" : Str), .str ("clear" : Str), .str ("cascade" : Str)]
def schB (K : PySem.W.Frag) : Bool := tupsB K && (insB K && (othB K && neB K))
def xcB (K : PySem.W.Frag) : Bool := excB0 K && (excB Pr.main.file K "BadWay" [("at" : Str)])
def ktB (K : PySem.W.Frag) : Bool := true
def ptB (K : PySem.W.Frag) : Bool := prB K p_Way_is_straight && (cmB K p_Way_of)
def moB (K : PySem.W.Frag) : Bool := true
def exK (K : PySem.W.Frag) : Bool := schB K && ((xcB K && ktB K) && (ptB K && moB K))
abbrev R : PySem.W.OpenRow := PySem.W.OpenLaw.row PySem.Challenge.rw_owedrebuilds_k18_ways_read
abbrev hk : PySem.W.Hook := hookP 6 fa fn mt pt exK
def ob (s : PySem.W.SharedT) : AlP := obsP 6 fa fn mt pt exK (HandSHeadRun.getT s)
theorem ob_eq (s : PySem.W.SharedT) : ob s = hk.obs s.abs := obsP_eq (HandSHeadRun.getT_eq s)
def n0 : List Str := ["_wall", "OwedError", "BadSchema", "NoTable", "NoColumn", "TooMany", "BadWay", "Mismatch", "LETTERS", "MOST_TABLES", "MOST_COLUMNS", "BARRED"]
def n1 : List Str := ["RULES", "VALUE", "FLAG", "LINK", "is_word", "named_tables", "column_of", "read_tables", "Schema", "empty_cell", "empty_cells", "MOST_STEPS"]
def n2 : List Str := ["read_flags", "is_link", "read_move", "split_word", "Way", "written", "undone", "by_tables", "visited", "moved", "levels", "grown"]
def n3 : List Str := ["flagged", "least_rows", "_law_pool", "_law_draw", "_law_of", "_law_letters", "_law_word", "_law_tables", "_law_text", "_law_columns", "_law_moves", "_law_asked"]
def n4 : List Str := ["_law_way", "_law_written", "_law_is_told"]
def nms : List Str := n0 ++ (n1 ++ (n2 ++ (n3 ++ (n4))))
theorem run (w : World) : HandSHeadRun.RunEq R (PySem.W.view R.prog [56]) hk ob 100000 nms w := by
  intro os
  kernel_rfl
end Ow

/-! schemas, the program: is_word, named_tables, column_of -/
namespace Ow
open PySem PySem.Spec L2
section
variable {P : Program} {w : World} {K : PySem.W.Frag} {mg : Str → Option Value} {base : Heap}
theorem sc_is_word : FnScope [("thing" : Str), ("sign" : Str)] [("thing" : Str)] (defScope s_is_word) := ⟨rfl, rfl, rfl, by decide +kernel, rfl, by decide +kernel, by decide +kernel⟩
theorem ok_is_word (D : TopD K mg "is_word" s_is_word) (T : Blt mg) (M : ScC K mg) : FnAt P w K mg base "is_word" [("thing" : Str)] 1 spIsW := by
  refine fn_at D sc_is_word (fun _ _ _ _ _ _ us hl => match us, hl with | [_], _ => rfl) (fun vs H Q E h => ?_) (fun f cdv A outer s H vs Q E hr h => ?_)
  · obtain ⟨z, rfl, _⟩ := h
    rfl
  · obtain ⟨z, rfl, hz, k⟩ := h
    refine ⟨_, (pss_one (ps_ret (pe_and (pe_callB call_isi (by rfl) M.isinstance (by decide +kernel) (pa_cons (pv 0) (pa_cons (pe_bltn (v := .ty "str") (by rfl) M.str (by decide +kernel) rfl) pa_nil))) (pe_and (pe_chain op_le op_le pe_int (pe_callB call_len_str (by rfl) T.len PySem.boot_len (pa_cons (pv 0) pa_nil)) pe_int) (pe_one (pe_callB (cr_all rfl) (by rfl) M.all (by decide +kernel) (pa_cons (pe_lc (own := [(("sign" : Str), 1)]) (by rfl) sc_is_word.nd (pi_str (pv 0)) (blkOk_by (own := [(("sign" : Str), 1)]) (N := [("thing" : Str), ("sign" : Str)]) (sc := defScope s_is_word) (by decide +kernel)) (fun _ _ _ _ _ => pg_name (i := 1) sc_is_word.nd rfl (Or.inl rfl)) (fun _ _ _ _ _ => pts_nil) (fun _ _ _ _ _ => (pe_cmpR op_in_sign (pv 1) (pe_gs M.LETTERS (by rfl)) rfl))) pa_nil))))))), ?_⟩
    have hz2 : z.length ≤ sizeLine := by rw [sizeLine_eq]; omega
    refine ⟨_, rfl, _, _, _, _, true, rfl, .ty "str", .base (.str z), kit_ty (by decide +kernel), true, rfl, ?_⟩
    refine iteT ?_
    refine ⟨_, rfl, _, rfl, hz2, _, _, rfl, rfl, _, rfl, ?_⟩
    refine ite2 (fun h1 => ?_) (fun h1 => ?_)
    · have h1 : (1 : Int) ≤ (z.length : Int) := of_decide_eq_true h1
      refine ⟨_, _, rfl, rfl, _, rfl, ?_⟩
      refine ite2 (fun h2 => ?_) (fun h2 => ?_)
      · have h2 : (z.length : Int) ≤ 8 := of_decide_eq_true h2
        refine ⟨_, rfl, z, rfl, fun l hl => ?_⟩
        refine lc_it walk_str (fun i H' => ∃ bs : List Bool, H' l = some (.lst (bs.map V.bl)) ∧ bs = (z.cps.toList.take i).map (fun c => decide (c ∈ LET.cps.toList)) ∧ Same H H')
          ⟨[], upd_same, rfl, same_upd hl⟩ (fun _ _ _ _ => trivial) ?_ ?_
        · rintro i x H1 H2 hi ⟨bs, hl1, hb, s1⟩ ⟨rfl, c, hc, rfl⟩
          have hi2 : i < z.length := hi
          refine ⟨rfl, ?_⟩
          refine yes_ ?_
          refine ⟨_, rfl, c, LET, rfl, rfl, bs.map V.bl, hl1, ?_, bs ++ [decide (c ∈ LET.cps.toList)], ?_, ?_, ?_⟩
          · have e : bs.length ≤ i := by rw [hb, List.length_map, List.length_take]; omega
            rw [List.length_map, sizeLine_eq]
            omega
          · rw [upd_same, List.map_append]
            rfl
          · have e : z.cps.toList[i]? = some c := by rw [Array.getElem?_toList]; exact hc
            rw [List.take_add_one, e, List.map_append, hb]
            rfl
          · exact fun b o q => by rw [upd_ne (ne_of_none q hl)]; exact s1 b o q
        · rintro H1 ⟨bs, hl1, hb, s1⟩
          refine ⟨l, bs, rfl, SqL.of hl1, ?_⟩
          have e : bs.all id = isW z := by
            unfold isW
            have e1 : z.cps.toList.take z.cps.size = z.cps.toList := List.take_of_length_le (by simp)
            rw [hb, e1, List.all_map, decide_eq_true (show 1 ≤ z.length by omega), decide_eq_true (show z.length ≤ 8 by omega)]
            rfl
          rw [e]
          exact k _ s1
      · have h2 : ¬ (z.length : Int) ≤ 8 := fun q => h2 (decide_eq_true q)
        have e : isW z = false := by
          unfold isW
          rw [decide_eq_false (show ¬ z.length ≤ 8 by omega)]
          simp
        have q := k H (Same.refl H)
        rw [e] at q
        exact q
    · have h1 : ¬ (1 : Int) ≤ (z.length : Int) := fun q => h1 (decide_eq_true q)
      refine ⟨_, rfl, ?_⟩
      refine iteF ?_
      have e : isW z = false := by
        unfold isW
        rw [decide_eq_false (show ¬ 1 ≤ z.length by omega)]
        rfl
      have q := k H (Same.refl H)
      rw [e] at q
      exact q
theorem sc_named_tables : FnScope [("lines" : Str), ("found" : Str), ("line" : Str), ("words" : Str)] [("lines" : Str)] (defScope s_named_tables) := ⟨rfl, rfl, rfl, by decide +kernel, rfl, by decide +kernel, by decide +kernel⟩
theorem ok_named (D : TopD K mg "named_tables" s_named_tables) (T : Blt mg) (M : ScC K mg) (F_is_word : FnAt P w K mg base "is_word" [("thing" : Str)] 1 spIsW) : FnAt P w K mg base "named_tables" [("lines" : Str)] 2 (spNamed K) := by
  refine fn_at D sc_named_tables (fun _ _ _ _ _ _ us hl => match us, hl with | [_], _ => rfl) (fun vs H Q E h => ?_) (fun f cdv A outer s H vs Q E hr h => ?_)
  · obtain ⟨l, ls, rfl, _⟩ := h
    rfl
  · obtain ⟨l, ls, rfl, hS, ⟨hn, hz⟩, k⟩ := h
    refine ⟨_, (pss_cons (ps_set (i := 1) sc_named_tables.nd rfl (Or.inl rfl) (pe_lst pa_nil))
      (pss_cons (ps_for PassesOwn.never rfl (pi_list (pv 0)) (pg_name (i := 2) sc_named_tables.nd rfl (Or.inl rfl))
      (pss_cons (ps_set (i := 3) sc_named_tables.nd rfl (Or.inl rfl) (pe_split (pv 2) pe_str))
      (pss_one (ps_if (PW.pt (pw_and (pt_cmpR op_eq (pe_callB call_len_seq (by rfl) T.len PySem.boot_len (pa_cons (pv 3) pa_nil)) pe_int (nomark _)) (pw_and (pt_cmpR op_eq (pe_ix ix_list (pv 3) pe_int (fun _ _ => rfl)) pe_str (nomark _)) (pw_and1 (pt_val (pe_fn F_is_word (hr.mono (by decide)) (by rfl) (pa_cons (pe_ix ix_list (pv 3) pe_int (fun _ _ => rfl)) pa_nil)))))))
      (pss_one (ps_expr (pe_bm PySem.F.plainAttrs_list PySem.F.slot_list_append PySem.F.type_list_append mt_append (pv 1) (pa_cons (pe_ix ix_list (pv 3) pe_int (fun _ _ => rfl)) pa_nil))))
      pss_nil))))
      (pss_one (ps_ret (pv 1))))), ?_⟩
    refine ⟨by show 0 ≤ sizeLine; decide, fun p hp => ?_⟩
    have s0 : Same H (upd H p (.lst [])) := same_upd hp
    refine ⟨_, rfl, l, rfl, ⟨_, s0.seq hS⟩, ?_⟩
    refine for_list (K := K) (a := l) (xs := ls.map V.str) (fun i σ H' => ∃ (u v : Option V) (fs : List Str), σ = [some (.ref l), some (.ref p), u, v] ∧ Same H H' ∧ fs = named (ls.take i) ∧ H' p = some (.lst (fs.map V.str)))
      ⟨_, _, [], rfl, s0, rfl, upd_same⟩ (fun i σ H' _ ⟨_, _, _, _, s1, _, _⟩ => s1.seq hS) ?_ ?_
    · rintro i x σ H1 hx ⟨u, v, fs, rfl, s1, hf, hp1⟩
      rw [List.getElem?_map] at hx
      obtain ⟨line, hx2, rfl⟩ := Option.map_eq_some_iff.mp hx
      clear hx
      have hx := hx2
      have hi : i < ls.length := (List.getElem?_eq_some_iff.mp hx).1
      have hlz := hz line (List.mem_of_getElem? hx)
      have hfl : fs.length ≤ i := by
        rw [hf]
        unfold named
        refine Nat.le_trans (List.length_filterMap_le _ _) ?_
        rw [List.length_take]
        omega
      have enx : named (ls.take (i + 1)) = fs ++ (nmOf line).toList := by
        unfold named at hf ⊢
        rw [List.take_add_one, hx, List.filterMap_append, hf]
        show _ ++ List.filterMap nmOf [line] = _
        rw [List.filterMap_cons]
        cases nmOf line <;> rfl
      refine ⟨_, rfl, ⟨_, rfl⟩, line, _, rfl, rfl, by decide +kernel, by rw [sizeLine_eq]; omega, fun q hq => ?_⟩
      have nqp : p ≠ q := ne_of_none hp1 hq
      have s2 : Same H (upd H1 q (.lst ((wsOf line).map V.str))) := s1.trans (same_upd hq)
      have hp2 : upd H1 q (.lst ((wsOf line).map V.str)) p = some (.lst (fs.map V.str)) := by rw [upd_ne nqp]; exact hp1
      have hq2 : upd H1 q (.lst ((wsOf line).map V.str)) q = some (.lst ((wsOf line).map V.str)) := upd_same
      have w0 : 0 < (wsOf line).length := List.length_pos_iff.mpr (ws_ne line)
      have no : nmOf line = none → ∀ H', Same H H' → H' p = some (.lst (fs.map V.str)) → ∃ (u v : Option V) (fs : List Str), ([some (V.ref l), some (.ref p), some (.str line), some (.ref q)] : L2.St) = [some (.ref l), some (.ref p), u, v] ∧ Same H H' ∧ fs = named (ls.take (i + 1)) ∧ H' p = some (.lst (fs.map V.str)) :=
        fun e H' s h => ⟨_, _, fs, rfl, s, by rw [enx, e]; exact (List.append_nil fs).symm, h⟩
      have noif : ¬ (((wsOf line).length == 2) && ((wd (wsOf line) 0 == ("table" : Str)) && isW (wd (wsOf line) 1))) = true → nmOf line = none := fun e => by unfold nmOf; rw [if_neg e]
      refine ⟨_, rfl, q, _, rfl, .inl (SqL.of hq2), rfl, _, rfl, ?_⟩
      refine ite2 (fun h1 => ?_) (fun h1 => ?_)
      · have h1 : (V.int (((wsOf line).map V.str).length : Int)) = V.int 2 := of_decide_eq_true h1
        have h1 : (wsOf line).length = 2 := by
          injection h1 with h1
          rw [List.length_map] at h1
          omega
        refine ⟨_, rfl, q, _, _, _, rfl, rfl, SqL.of hq2, wd_at w0, rfl, _, rfl, ?_⟩
        refine ite2 (fun h2 => ?_) (fun h2 => ?_)
        · have h2 : V.str (wd (wsOf line) 0) = V.str ("table" : Str) := of_decide_eq_true h2
          have h2 : wd (wsOf line) 0 = ("table" : Str) := by
            injection h2
          have hw1 : 1 < (wsOf line).length := by omega
          have hm1 := ws_len (wd_mem hw1)
          refine ⟨_, rfl, q, _, _, _, rfl, rfl, SqL.of hq2, wd_at hw1, _, rfl, Nat.le_trans hm1 hlz, fun H3 s3 => ?_⟩
          refine ⟨_, rfl, ?_⟩
          refine ite2 (fun h3 => ?_) (fun h3 => ?_)
          · have hsm : nmOf line = some (wd (wsOf line) 1) := by
              unfold nmOf
              rw [if_pos]
              rw [h1, h2, h3]
              decide
            have hp3 := s3 _ _ hp2
            refine ⟨_, rfl, .inl ⟨rfl, _, SqL.of hp3⟩, _, rfl, q, _, _, _, rfl, rfl, SqL.of (s3 _ _ hq2), wd_at hw1, p, _, _, rfl, rfl, hp3, ?_, ?_⟩
            · rw [List.length_map, sizeLine_eq]
              omega
            · refine ⟨_, _, fs ++ [wd (wsOf line) 1], rfl, ?_, ?_, ?_⟩
              · exact fun b o e => by rw [upd_ne (ne_of_none e hp)]; exact s3 _ _ (s2 _ _ e)
              · rw [enx, hsm]
                rfl
              · rw [upd_same, List.map_append]
                rfl
          · refine no (noif fun z => ?_) _ (s2.trans s3) (s3 _ _ hp2)
            simp only [Bool.and_eq_true] at z
            exact h3 z.2.2
        · refine no (noif fun z => ?_) _ s2 hp2
          simp only [Bool.and_eq_true, beq_iff_eq] at z
          exact h2 (decide_eq_true (by rw [z.2.1]))
      · refine no (noif fun z => ?_) _ s2 hp2
        simp only [Bool.and_eq_true, beq_iff_eq] at z
        exact h1 (decide_eq_true (by rw [List.length_map, z.1] <;> rfl))
    · rintro σ H1 ⟨u, v, fs, rfl, s1, hf, hp1⟩
      refine ⟨_, rfl, ?_⟩
      rw [List.length_map, List.take_length] at hf
      rw [hf] at hp1
      exact k _ _ s1 hp hp1
theorem sc_column_of : FnScope [("words" : Str), ("names" : Str)] [("words" : Str), ("names" : Str)] (defScope s_column_of) := ⟨rfl, rfl, rfl, by decide +kernel, rfl, by decide +kernel, by decide +kernel⟩
theorem ok_col (D : TopD K mg "column_of" s_column_of) (T : Blt mg) (M : ScC K mg) (F_is_word : FnAt P w K mg base "is_word" [("thing" : Str)] 1 spIsW) : FnAt P w K mg base "column_of" [("words" : Str), ("names" : Str)] 2 (spColOf K) := by
  refine fn_at D sc_column_of (fun _ _ _ _ _ _ us hl => match us, hl with | [_, _], _ => rfl) (fun vs H Q E h => ?_) (fun f cdv A outer s H vs Q E hr h => ?_)
  · obtain ⟨l, m, ws, ns, rfl, _⟩ := h
    rfl
  · obtain ⟨l, m, ws, ns, rfl, hl, hm, hz, k0, k1⟩ := h
    refine ⟨_, (pss_cons (ps_if (PW.pt (pw_or (pt_cmpR op_lt (pe_callB call_len_seq (by rfl) T.len PySem.boot_len (pa_cons (pv 0) pa_nil)) pe_int (nomark _)) (pw_or (pt_not (pt_val (pe_fn F_is_word (hr.mono (by decide)) (by rfl) (pa_cons (pe_ix ix_list (pv 0) pe_int (fun _ _ => rfl)) pa_nil)))) (pw_or1 (pt_cmpR op_in_seq (pe_ix ix_list (pv 0) pe_int (fun _ _ => rfl)) (pe_gt (K := K) M.BARRED (by rfl)) rfl)))))
      (pss_one (ps_ret pe_non))
      pss_nil)
      (pss_cons (ps_if (PW.pt (pw_and (pt_cmpR op_eq (pe_callB call_len_seq (by rfl) T.len PySem.boot_len (pa_cons (pv 0) pa_nil)) pe_int (nomark _)) (pw_and1 (pt_cmpR op_in_seq (pe_ix ix_list (pv 0) pe_int (fun _ _ => rfl)) (pe_tup (pa_cons (pe_gs M.VALUE (by rfl)) (pa_cons (pe_gs M.FLAG (by rfl)) pa_nil))) rfl))))
      (pss_one (ps_ret (pe_tup (pa_cons (pe_ix ix_list (pv 0) pe_int (fun _ _ => rfl)) (pa_cons (pe_tup (pa_cons (pe_ix ix_list (pv 0) pe_int (fun _ _ => rfl)) (pa_cons pe_non (pa_cons pe_non pa_nil)))) pa_nil)))))
      pss_nil)
      (pss_cons (ps_if (PW.pt (pw_and (pt_cmpR op_eq (pe_callB call_len_seq (by rfl) T.len PySem.boot_len (pa_cons (pv 0) pa_nil)) pe_int (nomark _)) (pw_and (pt_cmpR op_eq (pe_ix ix_list (pv 0) pe_int (fun _ _ => rfl)) (pe_gs M.LINK (by rfl)) (nomark _)) (pw_and (pt_cmpR op_in_seq (pe_ix ix_list (pv 0) pe_int (fun _ _ => rfl)) (pv 1) rfl) (pw_and1 (pt_cmpR op_in_seq (pe_ix ix_list (pv 0) pe_int (fun _ _ => rfl)) (pe_gt (K := K) M.RULES (by rfl)) rfl))))))
      (pss_one (ps_ret (pe_tup (pa_cons (pe_ix ix_list (pv 0) pe_int (fun _ _ => rfl)) (pa_cons (pe_tup (pa_cons (pe_gs M.LINK (by rfl)) (pa_cons (pe_ix ix_list (pv 0) pe_int (fun _ _ => rfl)) (pa_cons (pe_ix ix_list (pv 0) pe_int (fun _ _ => rfl)) pa_nil)))) pa_nil)))))
      pss_nil)
      (pss_one (ps_ret pe_non))))), ?_⟩
    refine ⟨_, rfl, l, _, rfl, .inl hl, _, _, rfl, rfl, _, rfl, ?_⟩
    refine ite2 (fun h1 => ?_) (fun h1 => ?_)
    · have h1 : (((ws.map V.str).length : Nat) : Int) < 2 := of_decide_eq_true h1
      rw [List.length_map] at h1
      refine k0 ?_ _ (Same.refl H)
      unfold colOf
      rw [if_pos (.inl (by omega))]
    have h1 : ¬ (((ws.map V.str).length : Nat) : Int) < 2 := fun q => h1 (decide_eq_true q)
    rw [List.length_map] at h1
    have w1 : 1 < ws.length := by omega
    have w0 : 0 < ws.length := by omega
    refine ⟨_, rfl, l, _, _, _, rfl, rfl, hl, wd_at w1, _, rfl, hz _ (wd_mem w1), fun H1 s1 => ?_⟩
    refine ⟨_, rfl, ?_⟩
    have hl1 := s1.seq hl
    have hm1 := s1.seq hm
    cases h2 : isW (wd ws 1) with
    | false =>
      refine iteT ?_
      refine k0 ?_ _ s1
      unfold colOf
      rw [if_pos (.inr (.inl h2))]
    | true =>
    refine iteF ?_
    refine ⟨_, rfl, l, _, _, _, rfl, rfl, hl1, wd_at w1, fun ba hba => ?_⟩
    refine ⟨ba, _, rfl, .inr (hba _), rfl, flat_strs BAR, _, rfl, ?_⟩
    show if (inV (.str (wd ws 1)) (BAR.map V.str)) = true then _ else _
    rw [inV_str]
    refine ite2 (fun h3 => ?_) (fun h3 => ?_)
    · refine k0 ?_ _ s1
      unfold colOf
      rw [if_pos (.inr (.inr (of_decide_eq_true h3)))]
    have h3 : ¬ wd ws 1 ∈ BAR := fun q => h3 (decide_eq_true q)
    have n1 : ¬ (ws.length < 2 ∨ isW (wd ws 1) = false ∨ wd ws 1 ∈ BAR) := by
      rintro (q | q | q)
      · omega
      · rw [h2] at q
        cases q
      · exact h3 q
    refine ⟨_, rfl, l, _, rfl, .inl hl1, rfl, _, rfl, ?_⟩
    refine ite2 (fun h4 => ?_) (fun h4 => ?_)
    · have h4 : (V.int ((ws.map V.str).length : Int)) = V.int 2 := of_decide_eq_true h4
      have h4 : ws.length = 2 := by
        injection h4 with h4
        rw [List.length_map] at h4
        omega
      refine ⟨_, rfl, l, _, _, _, rfl, rfl, hl1, wd_at w0, by show 2 ≤ sizeLine; decide, fun t ht => ?_⟩
      have s2 : Same H (upd H1 t (.tup [V.str ("value" : Str), V.str ("flag" : Str)])) := s1.trans (same_upd ht)
      have hl2 := s2.seq hl
      refine ⟨t, _, rfl, .inr (SqT.of upd_same), rfl, rfl, _, rfl, ?_⟩
      show if (inV (.str (wd ws 0)) ([("value" : Str), ("flag" : Str)].map V.str)) = true then _ else _
      rw [inV_str]
      refine ite2 (fun h5 => ?_) (fun h5 => ?_)
      · have h5 : wd ws 0 ∈ [("value" : Str), ("flag" : Str)] := of_decide_eq_true h5
        have h5 : wd ws 0 = ("value" : Str) ∨ wd ws 0 = ("flag" : Str) := by simpa using h5
        have e : colOf ws ns = some ⟨wd ws 1, wd ws 0, none, none⟩ := by
          unfold colOf
          rw [if_neg n1, if_pos ⟨h4, h5⟩]
        refine ⟨_, rfl, l, _, _, _, rfl, rfl, hl2, wd_at w1, _, rfl, l, _, _, _, rfl, rfl, hl2, wd_at w0, by show 3 ≤ sizeLine; decide, fun t2 h2t => ?_⟩
        have s3 := s2.trans (same_upd (o := .tup [V.str (wd ws 0), V.non, V.non]) h2t)
        refine ⟨by show 2 ≤ sizeLine; decide, fun t3 h3t => ?_⟩
        refine k1 _ e _ t3 t2 (s3.trans (same_upd h3t)) upd_same ?_
        rw [upd_ne (ne_of_none upd_same h3t), upd_same]
        rfl
      · have h5 : ¬ wd ws 0 ∈ [("value" : Str), ("flag" : Str)] := fun q => h5 (decide_eq_true q)
        have h5 : ¬ (wd ws 0 = ("value" : Str) ∨ wd ws 0 = ("flag" : Str)) := fun q => h5 (by simpa using q)
        refine ⟨_, rfl, l, _, rfl, .inl hl2, rfl, _, rfl, ?_⟩
        refine ite2 (fun h6 => ?_) (fun h6 => ?_)
        · have h6 : (V.int ((ws.map V.str).length : Int)) = V.int 4 := of_decide_eq_true h6
          injection h6 with h6
          rw [List.length_map] at h6
          omega
        · refine k0 ?_ _ s2
          unfold colOf
          rw [if_neg n1, if_neg (fun q => h5 q.2), if_neg]
          rintro ⟨q, _⟩
          omega
    · have h4 : ¬ (V.int ((ws.map V.str).length : Int)) = V.int 2 := fun q => h4 (decide_eq_true q)
      have h4 : ¬ ws.length = 2 := fun q => h4 (by rw [List.length_map, q] <;> rfl)
      refine ⟨_, rfl, l, _, rfl, .inl hl1, rfl, _, rfl, ?_⟩
      refine ite2 (fun h6 => ?_) (fun h6 => ?_)
      · have h6 : (V.int ((ws.map V.str).length : Int)) = V.int 4 := of_decide_eq_true h6
        have h6 : ws.length = 4 := by
          injection h6 with h6
          rw [List.length_map] at h6
          omega
        have w2 : 2 < ws.length := by omega
        have w3 : 3 < ws.length := by omega
        refine ⟨_, rfl, l, _, _, _, rfl, rfl, hl1, wd_at w0, rfl, _, rfl, ?_⟩
        refine ite2 (fun h7 => ?_) (fun h7 => ?_)
        · have h7 : V.str (wd ws 0) = V.str ("link" : Str) := of_decide_eq_true h7
          have h7 : wd ws 0 = ("link" : Str) := by injection h7
          refine ⟨_, rfl, l, _, _, _, rfl, rfl, hl1, wd_at w2, _, rfl, m, _, rfl, .inl hm1, rfl, flat_strs ns, _, rfl, ?_⟩
          show if (inV (.str (wd ws 2)) (ns.map V.str)) = true then _ else _
          rw [inV_str]
          refine ite2 (fun h8 => ?_) (fun h8 => ?_)
          · have h8 : wd ws 2 ∈ ns := of_decide_eq_true h8
            refine ⟨_, rfl, l, _, _, _, rfl, rfl, hl1, wd_at w3, fun ru hru => ?_⟩
            refine ⟨ru, _, rfl, .inr (hru _), rfl, flat_strs RUL, _, rfl, ?_⟩
            show if (inV (.str (wd ws 3)) (RUL.map V.str)) = true then _ else _
            rw [inV_str]
            refine ite2 (fun h9 => ?_) (fun h9 => ?_)
            · have h9 : wd ws 3 ∈ RUL := of_decide_eq_true h9
              have e : colOf ws ns = some ⟨wd ws 1, ("link" : Str), some (wd ws 2), some (wd ws 3)⟩ := by
                unfold colOf
                rw [if_neg n1, if_neg (fun q => h4 q.1), if_pos ⟨h6, h7, h8, h9⟩]
              refine ⟨_, rfl, l, _, _, _, rfl, rfl, hl1, wd_at w1, _, rfl, l, _, _, _, rfl, rfl, hl1, wd_at w2, _, rfl, l, _, _, _, rfl, rfl, hl1, wd_at w3, by show 3 ≤ sizeLine; decide, fun t2 h2t => ?_⟩
              refine ⟨by show 2 ≤ sizeLine; decide, fun t3 h3t => ?_⟩
              refine k1 _ e _ t3 t2 ((s1.trans (same_upd h2t)).trans (same_upd h3t)) upd_same ?_
              rw [upd_ne (ne_of_none upd_same h3t), upd_same]
              rfl
            · refine k0 ?_ _ s1
              unfold colOf
              rw [if_neg n1, if_neg (fun q => h4 q.1), if_neg (fun q => h9 (decide_eq_true q.2.2.2))]
          · refine k0 ?_ _ s1
            unfold colOf
            rw [if_neg n1, if_neg (fun q => h4 q.1), if_neg (fun q => h8 (decide_eq_true q.2.2.1))]
        · refine k0 ?_ _ s1
          unfold colOf
          rw [if_neg n1, if_neg (fun q => h4 q.1), if_neg (fun q => h7 (decide_eq_true (by rw [q.2.1])))]
      · refine k0 ?_ _ s1
        unfold colOf
        rw [if_neg n1, if_neg (fun q => h4 q.1), if_neg (fun q => h6 (decide_eq_true (by rw [List.length_map, q.1] <;> rfl)))]
end
end Ow
/-! schemas, the program: read_tables -/
namespace Ow
open PySem PySem.Spec L2
section
variable {P : Program} {w : World} {K : PySem.W.Frag} {mg : Str → Option Value} {base : Heap}
theorem sc_read_tables : FnScope [("lines" : Str), ("names" : Str), ("tables" : Str), ("last" : Str), ("at" : Str), ("line" : Str), ("words" : Str), ("read" : Str)] [("lines" : Str)] (defScope s_read_tables) := ⟨rfl, rfl, rfl, by decide +kernel, rfl, by decide +kernel, by decide +kernel⟩
/-- while the lines are read -/
def RdI (H : Hp) (l nm td : Addr) (ls : List Str) (fin : List Tab) (i : Nat) (σ : L2.St) (H' : Hp) : Prop := ∃ (x4 x5 x6 x7 : Option V) (ts : List Tab) (kvs : List (Key × V)),
  σ = [some (.ref l), some (.ref nm), some (.ref td), some (lastV ts), x4, x5, x6, x7] ∧ Same H H' ∧ H' nm = some (.lst ((named ls).map V.str)) ∧ H' td = some (.dK kvs) ∧ Tabs0 H' kvs ts ∧ ¬ Ads kvs td ∧ (∀ b, Ads kvs b → H b = none) ∧
  (ts.map Prod.fst).Nodup ∧ (ts.length ≤ 5 ∧ ∀ t ∈ ts, t.2.length ≤ 6) ∧ readT (named ls) (ls.drop i) ts i = .ok fin
theorem ok_read (D : TopD K mg "read_tables" s_read_tables) (T : Blt mg) (M : ScC K mg) (F_is_word : FnAt P w K mg base "is_word" [("thing" : Str)] 1 spIsW) (F_named : FnAt P w K mg base "named_tables" [("lines" : Str)] 2 (spNamed K)) (F_col : FnAt P w K mg base "column_of" [("words" : Str), ("names" : Str)] 2 (spColOf K)) :
    FnAt P w K mg base "read_tables" [("lines" : Str)] 3 (spRead K) := by
  refine fn_at D sc_read_tables (fun _ _ _ _ _ _ us hl => match us, hl with | [_], _ => rfl) (fun vs H Q E h => ?_) (fun f cdv A outer s H vs Q E hr h => ?_)
  · obtain ⟨l, ls, ts, rfl, _⟩ := h
    rfl
  · obtain ⟨l, ls, fin, rfl, hS, hsh, hrd, k⟩ := h
    refine ⟨_, (pss_cons (ps_set (i := 1) sc_read_tables.nd rfl (Or.inl rfl) (pe_fn F_named (hr.mono (by decide)) (by rfl) (pa_cons (pv 0) pa_nil)))
      (pss_cons (ps_par (i := 2) (j := 3) (by rfl) sc_read_tables.nd rfl rfl (by decide) rfl rfl (pa_cons pe_dnewK (pa_cons pe_non pa_nil)) (by rfl))
      (pss_cons (ps_for PassesOwn.never rfl (pi_enum (by rfl) M.enumerate (pa_cons (pv 0) pa_nil)) (pg_tup rfl (pgs_cons (pg_name (i := 4) sc_read_tables.nd rfl (Or.inl rfl)) (pgs_cons (pg_name (i := 5) sc_read_tables.nd rfl (Or.inl rfl)) pgs_nil)))
      (pss_cons (ps_set (i := 6) sc_read_tables.nd rfl (Or.inl rfl) (pe_split (pv 5) pe_str))
      (pss_cons (ps_if (pt_cmpR op_eq (pe_ix ix_list (pv 6) pe_int (fun _ _ => rfl)) pe_str (nomark _))
      (pss_cons (ps_if (PW.pt (pw_or (pt_cmpR op_ne (pe_callB call_len_seq (by rfl) T.len PySem.boot_len (pa_cons (pv 6) pa_nil)) pe_int (nomark _)) (pw_or (pt_not (pt_val (pe_fn F_is_word (hr.mono (by decide)) (by rfl) (pa_cons (pe_ix ix_list (pv 6) pe_int (fun _ _ => rfl)) pa_nil)))) (pw_or (pt_cmp (pc_din (hu_of hr) (pe_ix ix_list (pv 6) pe_int (fun _ _ => rfl)) (pv 2))) (pw_or1 (pt_cmpR op_eq (pe_callB call_lenD (by rfl) T.len PySem.boot_len (pa_cons (pv 2) pa_nil)) (pe_gi M.MOST_TABLES (by rfl)) (nomark _)))))))
      (pss_one ps_never)
      pss_nil)
      (pss_cons (ps_set (i := 3) sc_read_tables.nd rfl (Or.inl rfl) (pe_ix ix_list (pv 6) pe_int (fun _ _ => rfl)))
      (pss_cons (ps_dput (hu_of hr) (pv 2) (pv 3) pe_dnewK rfl)
      (pss_one ps_continue))))
      pss_nil)
      (pss_cons (ps_set (i := 7) sc_read_tables.nd rfl (Or.inl rfl) (pe_fn F_col (hr.mono (by decide)) (by rfl) (pa_cons (pv 6) (pa_cons (pv 1) pa_nil))))
      (pss_cons (ps_if (PW.pt (pw_or (pt_cmpR op_isN (pv 7) pe_non (nomark _)) (pw_or (pt_cmpR op_isN (pv 3) pe_non (nomark _)) (pw_or (pt_cmp (pc_din (hu_of hr) (pe_ix ix_tup (pv 7) pe_int (fun _ _ => rfl)) (pe_dget (hu_of hr) (pv 2) (pv 3) (fun _ _ => rfl)))) (pw_or1 (pt_cmpR op_eq (pe_callB call_lenD (by rfl) T.len PySem.boot_len (pa_cons (pe_dget (hu_of hr) (pv 2) (pv 3) (fun _ _ => rfl)) pa_nil)) (pe_gi M.MOST_COLUMNS (by rfl)) (nomark _)))))))
      (pss_one ps_never)
      pss_nil)
      (pss_one (ps_dput (hu_of hr) (pe_dget (hu_of hr) (pv 2) (pv 3) (fun _ _ => rfl)) (pe_ix ix_tup (pv 7) pe_int (fun _ _ => rfl)) (pe_ix ix_tup (pv 7) pe_int (fun _ _ => rfl)) rfl)))))))
      (pss_one (ps_ret (pe_frz (pv 2))))))), ?_⟩
    refine ⟨_, rfl, l, ls, rfl, hS, hsh, fun H1 nm s1 hnm hn1 => ?_⟩
    intro td hd
    refine ⟨_, _, rfl, ?_⟩
    have n1d : td ≠ nm := fun z => by rw [z, hn1] at hd; cases hd
    have hd0 : H td = none := by
      cases e : H td with
      | none => rfl
      | some o => rw [s1 _ _ e] at hd; cases hd
    have s2 : Same H (upd H1 td (.dK [])) := s1.trans (same_upd hd)
    refine ⟨_, rfl, l, _, rfl, s2.seq hS, ?_⟩
    refine for_it (walk_enum (K := K) (a := l) (xs := ls.map V.str)) (RdI H l nm td ls fin)
      ⟨_, _, _, _, [], [], rfl, s2, by rw [upd_ne n1d.symm]; exact hn1, upd_same, .nil, (fun ⟨_, z, _⟩ => nomatch z), (fun _ ⟨_, z, _⟩ => nomatch z), .nil, ⟨by simp, (fun _ z => nomatch z)⟩, hrd⟩
      (fun i σ H' _ ⟨_, _, _, _, _, _, _, s3, _⟩ => s3.seq hS) ?_ ?_
    · rintro i x σ H2 H3 hi ⟨x4, x5, x6, x7, ts, kvs, rfl, s3, hnm3, htd3, tb3, nad, fre, nod, few, hrd3⟩ ⟨tp, xi, xl, rfl, htp, rfl, e1, e2⟩
      cases e1
      have e2 : (ls.map V.str)[i]? = some xl := e2
      rw [List.getElem?_map] at e2
      obtain ⟨line, hx, rfl⟩ := Option.map_eq_some_iff.mp e2
      clear e2
      rw [List.length_map] at hi
      have hlz := hsh.2 line (List.mem_of_getElem? hx)
      have edr : ls.drop i = line :: ls.drop (i + 1) := by
        rw [List.drop_eq_getElem_cons hi]
        rw [List.getElem?_eq_getElem hi] at hx
        cases hx
        rfl
      rw [edr] at hrd3
      unfold readT at hrd3
      have st4 := same_upd (o := .tup [V.int (i : Nat), V.str line]) htp
      refine ⟨tp, _, rfl, SqT.of upd_same, rfl, _, _, rfl, _, _, rfl, rfl, ?_⟩
      refine ⟨_, rfl, ⟨_, rfl⟩, line, _, rfl, rfl, by decide +kernel, by rw [sizeLine_eq]; omega, fun q hq => ?_⟩
      have st5 := st4.trans (same_upd (o := .lst ((wsOf line).map V.str)) hq)
      have hq5 : upd (upd H2 tp (.tup [V.int (i : Nat), V.str line])) q (.lst ((wsOf line).map V.str)) q = some (.lst ((wsOf line).map V.str)) := upd_same
      have s5 := s3.trans st5
      have hnm5 := st5 _ _ hnm3
      have htd5 := st5 _ _ htd3
      have tb5 := tb3.same st5
      have w0 : 0 < (wsOf line).length := List.length_pos_iff.mpr (ws_ne line)
      refine ⟨_, rfl, q, _, _, _, rfl, rfl, SqL.of hq5, wd_at w0, rfl, _, rfl, ?_⟩
      refine ite2 (fun h1 => ?_) (fun h1 => ?_)
      · have h1 : V.str (wd (wsOf line) 0) = V.str ("table" : Str) := of_decide_eq_true h1
        have h1 : wd (wsOf line) 0 = ("table" : Str) := by injection h1
        cases hst : stepT (named ls) ts (wsOf line) with
        | none =>
          rw [hst] at hrd3
          cases hrd3
        | some ts' =>
          rw [hst] at hrd3
          have hrd3 : readT (named ls) (ls.drop (i + 1)) ts' (i + 1) = .ok fin := hrd3
          unfold stepT at hst
          rw [if_pos h1] at hst
          split at hst
          · cases hst
          · rename_i nc
            cases hst
            have c1 : (wsOf line).length = 2 := Classical.byContradiction fun z => nc (.inl z)
            have c2 : isW (wd (wsOf line) 1) = true := by
              cases z : isW (wd (wsOf line) 1) with
              | true => rfl
              | false => exact absurd (.inr (.inl z)) nc
            have c3 : wd (wsOf line) 1 ∉ ts.map Prod.fst := fun z => nc (.inr (.inr (.inl z)))
            have c4 : ts.length ≠ 5 := fun z => nc (.inr (.inr (.inr z)))
            have w1 : 1 < (wsOf line).length := by omega
            refine ⟨_, rfl, q, _, rfl, .inl (SqL.of hq5), rfl, _, rfl, ?_⟩
            refine iteNS (by rw [List.length_map, c1]; rfl) ?_
            refine ⟨_, rfl, q, _, _, _, rfl, rfl, SqL.of hq5, wd_at w1, _, rfl, Nat.le_trans (ws_len (wd_mem w1)) hlz, fun H6 s6 => ?_⟩
            rw [c2]
            refine ⟨true, rfl, iteF ?_⟩
            have hq6 := s6 _ _ hq5
            have htd6 := s6 _ _ htd5
            have tb6 := tb5.same s6
            have hv6 : valV kvs (Sum.inr (wd (wsOf line) 1)) = none := by
              rcases tb6.val (x := wd (wsOf line) 1) with ⟨_, e⟩ | ⟨cs, _, _, e, _⟩
              · exact e
              · have := tabAt_none.mpr c3
                rw [e] at this
                cases this
            refine ⟨_, rfl, q, _, _, _, rfl, rfl, SqL.of hq6, wd_at w1, _, rfl, td, _, rfl, DGet.k (k := Sum.inr (wd (wsOf line) 1)) htd6, _, rfl, ?_⟩
            rw [hv6]
            refine iteF ?_
            refine ⟨_, rfl, td, kvs, rfl, htd6, rfl, _, rfl, ?_⟩
            refine ite2 (fun z => ?_) (fun _ => ?_)
            · have z : V.int (kvs.length : Int) = V.int 5 := of_decide_eq_true z
              injection z with z
              have e := tb6.len
              omega
            refine ⟨_, rfl, q, _, _, _, rfl, rfl, SqL.of hq6, wd_at w1, ?_⟩
            intro a ha
            have nat : td ≠ a := ne_of_none htd6 ha
            have naq : ¬ Ads kvs a := fun z => by
              obtain ⟨k', e⟩ := tb6.dk z
              rw [ha] at e
              cases e
            have htd7 : upd H6 a (.dK []) td = some (.dK kvs) := by rw [upd_ne nat]; exact htd6
            refine ⟨_, rfl, _, rfl, td, _, rfl, DPut.k (k := Sum.inr (wd (wsOf line) 1)) htd7 ?_, ?_⟩
            · have e := tb6.len
              rw [sizeLine_eq]
              have h5 := few.1
              omega
            rw [putK_new hv6]
            have s7 : Same H (upd (upd H6 a (.dK [])) td (.dK (kvs ++ [(Sum.inr (wd (wsOf line) 1), .ref a)]))) := fun b o e => by
              rw [upd_ne (fun z => by rw [z, hd0] at e; cases e), upd_ne (ne_of_none (s6 _ _ (s5 _ _ e)) ha)]
              exact s6 _ _ (s5 _ _ e)
            have ha0 : H a = none := by
              cases e : H a with
              | none => rfl
              | some o => rw [s6 _ _ (s5 _ _ e)] at ha; cases ha
            refine ⟨_, _, _, _, ts ++ [(wd (wsOf line) 1, [])], _, by rw [lastV_app] <;> rfl, s7, ?_, upd_same, ?_, ?_, ?_, ?_, ?_, hrd3⟩
            · rw [upd_ne (fun z => by rw [← z, s6 _ _ hnm5] at htd6; cases htd6), upd_ne (ne_of_none (s6 _ _ hnm5) ha)]
              exact s6 _ _ hnm5
            · refine Tabs0.updO htd7 (fun _ z => nomatch z) ?_ ?_
              · exact Tabs0.more upd_same (tb6.updN ha) naq
              · rw [ads_app]
                rintro (z | z)
                · exact nad z
                · rcases Ads.cons.mp z with z | ⟨_, z, _⟩
                  · exact nat z
                  · cases z
            · rw [ads_app]
              rintro (z | z)
              · exact nad z
              · rcases Ads.cons.mp z with z | ⟨_, z, _⟩
                · exact nat z
                · cases z
            · intro b hb
              rcases ads_app.mp hb with z | z
              · exact fre b z
              · rcases Ads.cons.mp z with rfl | ⟨_, z, _⟩
                · exact ha0
                · cases z
            · rw [List.map_append, List.nodup_append]
              refine ⟨nod, by simp, fun x hx y hy e => ?_⟩
              rw [List.map_cons, List.map_nil, List.mem_singleton] at hy
              rw [e, hy] at hx
              exact c3 hx
            · refine ⟨by rw [List.length_append]; have := few.1; simp; omega, fun t ht => ?_⟩
              rcases List.mem_append.mp ht with z | z
              · exact few.2 t z
              · rw [List.mem_singleton.mp z]
                simp
      · have h1 : ¬ wd (wsOf line) 0 = ("table" : Str) := fun z => h1 (decide_eq_true (by rw [z]))
        cases hst : stepT (named ls) ts (wsOf line) with
        | none =>
          rw [hst] at hrd3
          cases hrd3
        | some ts' =>
          rw [hst] at hrd3
          have hrd3 : readT (named ls) (ls.drop (i + 1)) ts' (i + 1) = .ok fin := hrd3
          unfold stepT at hst
          rw [if_neg h1] at hst
          cases hco : colOf (wsOf line) (named ls) with
          | none =>
            rw [hco] at hst
            cases hst
          | some c =>
            rw [hco] at hst
            have hst : addCol ts c = some ts' := hst
            obtain ⟨acc, n, cs, rfl⟩ := addCol_some hst
            obtain ⟨c1, c2, rfl⟩ := addCol_last hst
            refine ⟨_, rfl, _, rfl, q, nm, _, _, rfl, SqL.of hq5, SqL.of hnm5, (fun z hz => Nat.le_trans (ws_len hz) hlz), (fun e => by rw [hco] at e; cases e), fun c' e H6 pr tu s6 hpr htu => ?_⟩
            rw [hco] at e
            cases e
            have hnd : n ∉ acc.map Prod.fst := fun z => by
              rw [List.map_append, List.nodup_append] at nod
              exact nod.2.2 _ z _ (List.mem_cons_self ..) rfl
            have htd6 := s6 _ _ htd5
            obtain ⟨a, k', v1, v2, v3, v4, v5⟩ := (tb5.same s6).last hnd
            have hno : valV k' (Sum.inr c.name) = none := by
              rcases v3.val (x := c.name) with ⟨_, e⟩ | ⟨c', _, e, _⟩
              · exact e
              · have := colAt_none.mpr c1
                rw [e] at this
                cases this
            refine ⟨_, rfl, rfl, _, rfl, iteF ?_⟩
            refine ⟨_, rfl, rfl, _, rfl, ?_⟩
            rw [lastV_app]
            refine iteF ?_
            refine ⟨_, rfl, pr, _, _, _, rfl, rfl, SqT.of hpr, atI_nat (j := 0) rfl, _, rfl, _, rfl, td, .ref a, rfl, ?_, a, _, rfl, DGet.k (k := Sum.inr c.name) v2, _, rfl, ?_⟩
            · have g := DGet.k (k := Sum.inr n) htd6
              rw [v1] at g
              exact g
            rw [hno]
            refine iteF ?_
            have g : DGet H6 td (.str n) (some (.ref a)) := by
              have g := DGet.k (k := Sum.inr n) htd6
              rw [v1] at g
              exact g
            have ec := v3.len
            have f6 : cs.length ≤ 6 := few.2 (n, cs) (List.mem_append_right _ (List.mem_cons_self ..))
            refine ⟨_, rfl, _, rfl, td, .ref a, rfl, g, a, k', rfl, v2, rfl, _, rfl, ?_⟩
            refine ite2 (fun z => ?_) (fun _ => ?_)
            · have z : V.int (k'.length : Int) = V.int 6 := of_decide_eq_true z
              injection z with z
              omega
            refine ⟨_, rfl, pr, _, _, _, rfl, rfl, SqT.of hpr, atI_nat (j := 1) rfl, _, rfl, _, rfl, td, .ref a, rfl, g, _, rfl, pr, _, _, _, rfl, rfl, SqT.of hpr, atI_nat (j := 0) rfl, a, _, rfl, DPut.k (k := Sum.inr c.name) v2 ?_, ?_⟩
            · rw [sizeLine_eq]
              omega
            rw [putK_new hno]
            have nta : td ≠ a := fun z => nad (by rw [z]; exact v4)
            have ha0 := fre a v4
            refine ⟨_, _, _, _, acc ++ [(n, cs ++ [c])], kvs, by rw [lastV_app] <;> rfl, ?_, ?_, ?_, v5 c tu htu, nad, fre, ?_, ?_, hrd3⟩
            · exact fun b o e => by
                rw [upd_ne (ne_of_none e ha0)]
                exact s6 _ _ (s5 _ _ e)
            · rw [upd_ne (fun z => by rw [← z, s6 _ _ hnm5] at v2; cases v2)]
              exact s6 _ _ hnm5
            · rw [upd_ne nta]
              exact htd6
            · have e : (acc ++ [(n, cs ++ [c])]).map Prod.fst = (acc ++ [(n, cs)]).map Prod.fst := by rw [List.map_append, List.map_append] <;> rfl
              rw [e]
              exact nod
            · refine ⟨by have := few.1; simpa using this, fun t ht => ?_⟩
              rcases List.mem_append.mp ht with z | z
              · exact few.2 t (List.mem_append_left _ z)
              · rw [List.mem_singleton.mp z]
                show (cs ++ [c]).length ≤ 6
                rw [List.length_append]
                simp
                omega
    · rintro σ H2 ⟨x4, x5, x6, x7, ts, kvs, rfl, s3, hnm3, htd3, tb3, nad, fre, nod, few, hrd3⟩
      rw [List.length_map, List.drop_length] at hrd3
      have e : ts = fin := by
        unfold readT at hrd3
        cases hrd3
        rfl
      subst e
      refine ⟨_, rfl, frz_all htd3 tb3 nad fun H' o ag hd' tb' => ?_⟩
      refine k H' td o kvs (fun b u e => ?_) hd' tb'
      rw [ag b (fun z => by rw [z, hd0] at e; cases e) fun z => by rw [fre b z] at e; cases e]
      exact s3 _ _ e
end
end Ow
/-! schemas, the program: the class Schema -/
namespace Ow
open PySem PySem.Spec L2
section
variable {P : Program} {w : World} {K : PySem.W.Frag} {mg : Str → Option Value} {base : Heap}
theorem sc_Schema___init__ : FnScope [("self" : Str), ("text" : Str), ("tables" : Str)] [("self" : Str), ("text" : Str)] (defScope s_Schema___init__) := ⟨rfl, rfl, rfl, by decide +kernel, rfl, by decide +kernel, by decide +kernel⟩
theorem ok_init (D : MtD K "Schema" "__init__" "Schema.__init__" s_Schema___init__) (T : Blt mg) (M : ScC K mg) (S : ScS K mg) (F_read : FnAt P w K mg base "read_tables" [("lines" : Str)] 3 (spRead K)) :
    MtAt P w K mg base "Schema" "__init__" [("self" : Str), ("text" : Str)] 4 (spInit K) := by
  refine mt_at D sc_Schema___init__ (fun _ _ _ _ _ _ us hl => match us, hl with | [_, _], _ => rfl) (fun vs H Q E h => ?_) (fun f cdv A outer s H vs Q E hr h => ?_)
  · obtain ⟨x, dx, z, ts, rfl, _⟩ := h
    rfl
  · obtain ⟨x, dx, z, ts, rfl, hx, hz, hsh, hrd, k⟩ := h
    refine ⟨_, (pss_cons (ps_if (pt_not (pt_val (pe_callB call_isi (by rfl) M.isinstance (by decide +kernel) (pa_cons (pv 1) (pa_cons (pe_bltn (v := .ty "str") (by rfl) M.str (by decide +kernel) rfl) pa_nil)))))
      (pss_one ps_never)
      pss_nil)
      (pss_cons (ps_set (i := 2) sc_Schema___init__.nd rfl (Or.inl rfl) (pe_fn F_read (hr.mono (by decide)) (by rfl) (pa_cons (pe_split (pv 1) pe_str) pa_nil)))
      (pss_cons (ps_fld (pv 0) (pv 1) rfl)
      (pss_cons (ps_fld (pv 0) (pv 2) rfl)
      (pss_one (ps_fld (pv 0) (pe_callTy (call_tuple_dK rfl) (by rfl) T.tuple (by decide +kernel) (pa_cons (pv 2) pa_nil)) rfl)))))), ?_⟩
    refine ⟨_, rfl, _, _, _, _, true, rfl, .ty "str", .base (.str z), kit_ty (by decide +kernel), _, rfl, iteF ?_⟩
    refine ⟨_, rfl, ⟨_, rfl⟩, z, _, rfl, rfl, by decide +kernel, by rw [sizeLine_eq]; omega, fun q hq => ?_⟩
    have s1 := same_upd (o := .lst ((linesIn z).map V.str)) hq
    refine ⟨q, linesIn z, ts, rfl, SqL.of upd_same, hsh, hrd, fun H2 d o kvs s2 hd tb => ?_⟩
    have s12 := s1.trans s2
    have hx2 := s12 _ _ hx
    refine ⟨_, rfl, _, rfl, x, _, dx, _, rfl, hx2, S.cl, S.text, by decide, ?_⟩
    refine ⟨_, rfl, _, rfl, x, _, dx, _, rfl, upd_same, S.cl, S.found, by show 1 < 1000; decide, ?_⟩
    have ndx : d ≠ x := ne_of hd hx2 fun z => nomatch z
    have hd4 : upd (upd H2 x (.ins (He.ga K "Schema") dx [(("text" : Str), V.str z)])) x (.ins (He.ga K "Schema") dx [(("text" : Str), V.str z), (("found" : Str), V.ref d)]) d = some (.frz o (.dK kvs)) := by rw [upd_ne ndx, upd_ne ndx]; exact hd
    refine ⟨_, rfl, d, kvs, rfl, .inr ⟨o, hd4⟩, fun tp htp => ?_⟩
    have ntx : x ≠ tp := ne_of_none upd_same htp
    refine ⟨_, rfl, x, _, dx, _, rfl, by rw [upd_ne ntx]; exact upd_same, S.cl, S.tables, by show 2 < 1000; decide, ?_⟩
    have oth : ∀ b u, b ≠ x → H2 b = some u → upd (upd (upd (upd H2 x (.ins (He.ga K "Schema") dx [(("text" : Str), V.str z)])) x (.ins (He.ga K "Schema") dx [(("text" : Str), V.str z), (("found" : Str), V.ref d)])) tp (.tup (kvs.map fun kv => kV kv.1))) x (.ins (He.ga K "Schema") dx [(("text" : Str), V.str z), (("found" : Str), V.ref d), (("tables" : Str), V.ref tp)]) b = some u := fun b u hb e => by
      have nb : b ≠ tp := ne_of_none (show upd (upd H2 x (.ins (He.ga K "Schema") dx [(("text" : Str), V.str z)])) x (.ins (He.ga K "Schema") dx [(("text" : Str), V.str z), (("found" : Str), V.ref d)]) b = some u by rw [upd_ne hb, upd_ne hb]; exact e) htp
      rw [upd_ne hb, upd_ne nb, upd_ne hb, upd_ne hb]
      exact e
    refine k _ (fun b u hb e => oth b u hb (s12 _ _ e)) ⟨dx, d, tp, o, kvs, upd_same, oth _ _ ndx hd, tb.but hx2 (fun _ z => nomatch z) (fun _ _ z => nomatch z) oth, ?_⟩
    rw [upd_ne ntx.symm, upd_same, tb.keys]
theorem sc_Schema_columns : FnScope [("self" : Str), ("table" : Str)] [("self" : Str), ("table" : Str)] (defScope s_Schema_columns) := ⟨rfl, rfl, rfl, by decide +kernel, rfl, by decide +kernel, by decide +kernel⟩
theorem ok_columns (D : MtD K "Schema" "columns" "Schema.columns" s_Schema_columns) (T : Blt mg) (M : ScC K mg) (S : ScS K mg) : MtAt P w K mg base "Schema" "columns" [("self" : Str), ("table" : Str)] 1 (spColumns K) := by
  refine mt_at D sc_Schema_columns (fun _ _ _ _ _ _ us hl => match us, hl with | [_, _], _ => rfl) (fun vs H Q E h => ?_) (fun f cdv A outer s H vs Q E hr h => ?_)
  · obtain ⟨x, z, t, ts, cs, rfl, _⟩ := h
    rfl
  · obtain ⟨x, z, t, ts, cs, rfl, ⟨dx, d, tp, o, kvs, hx, hd, tb, htp⟩, hat, k⟩ := h
    refine ⟨_, (pss_cons (ps_if (pt_cmpR op_notIn_seq (pv 1) (pe_fld (pv 0) rfl) rfl)
      (pss_one ps_never)
      pss_nil)
      (pss_one (ps_ret (pe_callTy (call_tuple_dK rfl) (by rfl) T.tuple (by decide +kernel) (pa_cons (pe_dget (hu_of hr) (pe_fld (pv 0) rfl) (pv 1) (fun _ _ => rfl)) pa_nil))))), ?_⟩
    refine ⟨_, rfl, _, rfl, x, _, dx, _, _, rfl, hx, S.cl, S.tables, rfl, tp, _, rfl, .inr (SqT.of htp), rfl, ?_, _, rfl, ?_⟩
    · have e : (ts.map fun u => V.str u.1) = (ts.map Prod.fst).map V.str := by rw [List.map_map] <;> rfl
      rw [e]
      exact flat_strs _
    have hin : inV (V.str t) (ts.map fun u => V.str u.1) = true := by
      have e : (ts.map fun u => V.str u.1) = (ts.map Prod.fst).map V.str := by rw [List.map_map] <;> rfl
      rw [e, inV_str]
      exact decide_eq_true (List.mem_map_of_mem (f := Prod.fst) (tabAt_mem hat))
    show if (!inV (V.str t) (ts.map fun u => V.str u.1)) = true then _ else _
    rw [hin]
    refine iteF ?_
    rcases tb.val (x := t) with ⟨e, _⟩ | ⟨cs', a, o', kvs', e1, e2, e3, e4⟩
    · rw [hat] at e
      cases e
    rw [hat] at e1
    cases e1
    refine ⟨_, rfl, x, _, dx, _, _, rfl, hx, S.cl, S.found, rfl, _, rfl, d, .ref a, rfl, .inl ⟨kvs, Sum.inr t, .inr ⟨o, hd⟩, rfl, e2.symm⟩, a, kvs', rfl, .inr ⟨o', e3⟩, fun q hq => ?_⟩
    refine k _ q (same_upd hq) hq ?_
    rw [upd_same, e4.keys]
theorem sc_Schema_told : FnScope [("self" : Str), ("table" : Str), ("column" : Str)] [("self" : Str), ("table" : Str), ("column" : Str)] (defScope s_Schema_told) := ⟨rfl, rfl, rfl, by decide +kernel, rfl, by decide +kernel, by decide +kernel⟩
theorem ok_told (D : MtD K "Schema" "told" "Schema.told" s_Schema_told) (T : Blt mg) (M : ScC K mg) (S : ScS K mg) (F_columns : MtAt P w K mg base "Schema" "columns" [("self" : Str), ("table" : Str)] 1 (spColumns K)) : MtAt P w K mg base "Schema" "told" [("self" : Str), ("table" : Str), ("column" : Str)] 2 (spTold K) := by
  refine mt_at D sc_Schema_told (fun _ _ _ _ _ _ us hl => match us, hl with | [_, _, _], _ => rfl) (fun vs H Q E h => ?_) (fun f cdv A outer s H vs Q E hr h => ?_)
  · obtain ⟨x, z, t, y, ts, cs, c, rfl, _⟩ := h
    rfl
  · obtain ⟨x, z, t, y, ts, cs, c, rfl, hsc, hat, hco, k⟩ := h
    obtain ⟨dx, d, tp, o, kvs, hx, hd, tb, htp⟩ := id hsc
    refine ⟨_, (pss_cons (ps_if (pt_cmpR op_notIn_seq (pv 2) (pe_mt F_columns S.cl (hr.mono (by decide)) (pv 0) (pa_cons (pv 1) pa_nil)) rfl)
      (pss_one ps_never)
      pss_nil)
      (pss_one (ps_ret (pe_dget (hu_of hr) (pe_dget (hu_of hr) (pe_fld (pv 0) rfl) (pv 1) (fun _ _ => rfl)) (pv 2) (fun _ _ => rfl))))), ?_⟩
    refine ⟨_, rfl, _, rfl, x, dx, _, rfl, hx, rfl, _, rfl, x, z, t, ts, cs, rfl, hsc, hat, fun H1 q s1 _ hq => ?_⟩
    have hin : inV (V.str y) (cs.map fun u => V.str u.name) = true := by
      have e : (cs.map fun u => V.str u.name) = (cs.map Col.name).map V.str := by rw [List.map_map] <;> rfl
      rw [e, inV_str]
      refine decide_eq_true ?_
      rw [← (colAt_mem hco).2]
      exact List.mem_map_of_mem (f := Col.name) (colAt_mem hco).1
    refine ⟨q, _, rfl, .inr (SqT.of hq), rfl, ?_, _, rfl, ?_⟩
    · have e : (cs.map fun u => V.str u.name) = (cs.map Col.name).map V.str := by rw [List.map_map] <;> rfl
      rw [e]
      exact flat_strs _
    show if (!inV (V.str y) (cs.map fun u => V.str u.name)) = true then _ else _
    rw [hin]
    refine iteF ?_
    rcases (tb.same s1).val (x := t) with ⟨e, _⟩ | ⟨cs', a, o', kvs', e1, e2, e3, e4⟩
    · rw [hat] at e
      cases e
    rw [hat] at e1
    cases e1
    rcases e4.val (x := y) with ⟨e, _⟩ | ⟨c', b, f1, f2, f3⟩
    · rw [hco] at e
      cases e
    rw [hco] at f1
    cases f1
    refine ⟨_, rfl, x, _, dx, _, _, rfl, s1 _ _ hx, S.cl, S.found, rfl, _, rfl, d, .ref a, rfl, .inl ⟨kvs, Sum.inr t, .inr ⟨o, s1 _ _ hd⟩, rfl, e2.symm⟩, _, rfl, a, .ref b, rfl, .inl ⟨kvs', Sum.inr y, .inr ⟨o', e3⟩, rfl, f2.symm⟩, ?_⟩
    exact k _ b s1 f3
theorem sc_Schema_kind : FnScope [("self" : Str), ("table" : Str), ("column" : Str)] [("self" : Str), ("table" : Str), ("column" : Str)] (defScope s_Schema_kind) := ⟨rfl, rfl, rfl, by decide +kernel, rfl, by decide +kernel, by decide +kernel⟩
theorem ok_kind (D : MtD K "Schema" "kind" "Schema.kind" s_Schema_kind) (T : Blt mg) (M : ScC K mg) (S : ScS K mg) (F_told : MtAt P w K mg base "Schema" "told" [("self" : Str), ("table" : Str), ("column" : Str)] 2 (spTold K)) : MtAt P w K mg base "Schema" "kind" [("self" : Str), ("table" : Str), ("column" : Str)] 3 (spPart K fun c => V.str c.kind) := by
  refine mt_at D sc_Schema_kind (fun _ _ _ _ _ _ us hl => match us, hl with | [_, _, _], _ => rfl) (fun vs H Q E h => ?_) (fun f cdv A outer s H vs Q E hr h => ?_)
  · obtain ⟨x, z, t, y, ts, cs, c, rfl, _⟩ := h
    rfl
  · obtain ⟨x, z, t, y, ts, cs, c, rfl, hsc, hat, hco, k⟩ := h
    obtain ⟨dx, d, tp, o, kvs, hx, hd, tb, htp⟩ := id hsc
    refine ⟨_, (pss_one (ps_ret (pe_ix ix_tup (pe_mt F_told S.cl (hr.mono (by decide)) (pv 0) (pa_cons (pv 1) (pa_cons (pv 2) pa_nil))) pe_int (fun _ _ => rfl)))), ?_⟩
    refine ⟨_, rfl, x, dx, _, rfl, hx, rfl, _, rfl, _, rfl, x, z, t, y, ts, cs, c, rfl, hsc, hat, hco, fun H1 a s1 ha => ?_⟩
    exact ⟨a, _, _, _, rfl, rfl, SqT.of ha, atI_nat (j := 0) rfl, k _ s1⟩
theorem sc_Schema_target : FnScope [("self" : Str), ("table" : Str), ("column" : Str)] [("self" : Str), ("table" : Str), ("column" : Str)] (defScope s_Schema_target) := ⟨rfl, rfl, rfl, by decide +kernel, rfl, by decide +kernel, by decide +kernel⟩
theorem ok_target (D : MtD K "Schema" "target" "Schema.target" s_Schema_target) (T : Blt mg) (M : ScC K mg) (S : ScS K mg) (F_told : MtAt P w K mg base "Schema" "told" [("self" : Str), ("table" : Str), ("column" : Str)] 2 (spTold K)) : MtAt P w K mg base "Schema" "target" [("self" : Str), ("table" : Str), ("column" : Str)] 3 (spPart K fun c => oV c.tgt) := by
  refine mt_at D sc_Schema_target (fun _ _ _ _ _ _ us hl => match us, hl with | [_, _, _], _ => rfl) (fun vs H Q E h => ?_) (fun f cdv A outer s H vs Q E hr h => ?_)
  · obtain ⟨x, z, t, y, ts, cs, c, rfl, _⟩ := h
    rfl
  · obtain ⟨x, z, t, y, ts, cs, c, rfl, hsc, hat, hco, k⟩ := h
    obtain ⟨dx, d, tp, o, kvs, hx, hd, tb, htp⟩ := id hsc
    refine ⟨_, (pss_one (ps_ret (pe_ix ix_tup (pe_mt F_told S.cl (hr.mono (by decide)) (pv 0) (pa_cons (pv 1) (pa_cons (pv 2) pa_nil))) pe_int (fun _ _ => rfl)))), ?_⟩
    refine ⟨_, rfl, x, dx, _, rfl, hx, rfl, _, rfl, _, rfl, x, z, t, y, ts, cs, c, rfl, hsc, hat, hco, fun H1 a s1 ha => ?_⟩
    exact ⟨a, _, _, _, rfl, rfl, SqT.of ha, atI_nat (j := 1) rfl, k _ s1⟩
theorem sc_Schema_rule : FnScope [("self" : Str), ("table" : Str), ("column" : Str)] [("self" : Str), ("table" : Str), ("column" : Str)] (defScope s_Schema_rule) := ⟨rfl, rfl, rfl, by decide +kernel, rfl, by decide +kernel, by decide +kernel⟩
theorem ok_rule (D : MtD K "Schema" "rule" "Schema.rule" s_Schema_rule) (T : Blt mg) (M : ScC K mg) (S : ScS K mg) (F_told : MtAt P w K mg base "Schema" "told" [("self" : Str), ("table" : Str), ("column" : Str)] 2 (spTold K)) : MtAt P w K mg base "Schema" "rule" [("self" : Str), ("table" : Str), ("column" : Str)] 3 (spPart K fun c => oV c.rule) := by
  refine mt_at D sc_Schema_rule (fun _ _ _ _ _ _ us hl => match us, hl with | [_, _, _], _ => rfl) (fun vs H Q E h => ?_) (fun f cdv A outer s H vs Q E hr h => ?_)
  · obtain ⟨x, z, t, y, ts, cs, c, rfl, _⟩ := h
    rfl
  · obtain ⟨x, z, t, y, ts, cs, c, rfl, hsc, hat, hco, k⟩ := h
    obtain ⟨dx, d, tp, o, kvs, hx, hd, tb, htp⟩ := id hsc
    refine ⟨_, (pss_one (ps_ret (pe_ix ix_tup (pe_mt F_told S.cl (hr.mono (by decide)) (pv 0) (pa_cons (pv 1) (pa_cons (pv 2) pa_nil))) pe_int (fun _ _ => rfl)))), ?_⟩
    refine ⟨_, rfl, x, dx, _, rfl, hx, rfl, _, rfl, _, rfl, x, z, t, y, ts, cs, c, rfl, hsc, hat, hco, fun H1 a s1 ha => ?_⟩
    exact ⟨a, _, _, _, rfl, rfl, SqT.of ha, atI_nat (j := 2) rfl, k _ s1⟩
end
end Ow
/-! schemas, the program: a Schema's own methods -/
namespace Ow
open PySem PySem.Spec L2
theorem hu65 {k : Nat} {A : Around} (hr : Room k A) : A.units + 65 < cLine := by have := hr.un; omega
section
variable {P : Program} {w : World} {K : PySem.W.Frag} {mg : Str → Option Value} {base : Heap}
theorem sc_Schema___len__ : FnScope [("self" : Str)] [("self" : Str)] (defScope s_Schema___len__) := ⟨rfl, rfl, rfl, by decide +kernel, rfl, by decide +kernel, by decide +kernel⟩
theorem ok_len (D : MtD K "Schema" "__len__" "Schema.__len__" s_Schema___len__) (T : Blt mg) (M : ScC K mg) (S : ScS K mg) : MtAt P w K mg base "Schema" "__len__" [("self" : Str)] 1 (spLenS K) := by
  refine mt_at D sc_Schema___len__ (fun _ _ _ _ _ _ us hl => match us, hl with | [_], _ => rfl) (fun vs H Q E h => ?_) (fun f cdv A outer s H vs Q E hr h => ?_)
  · obtain ⟨x, z, ts, rfl, _⟩ := h
    rfl
  · obtain ⟨x, z, ts, rfl, ⟨dx, d, tp, o, kvs, hx, hd, tb, htp⟩, k⟩ := h
    refine ⟨_, (pss_one (ps_ret (pe_callB call_len_seq (by rfl) T.len PySem.boot_len (pa_cons (pe_fld (pv 0) rfl) pa_nil)))), ?_⟩
    refine ⟨_, rfl, x, _, dx, _, _, rfl, hx, S.cl, S.tables, rfl, tp, _, rfl, .inr (SqT.of htp), ?_⟩
    rw [List.length_map]
    exact k
theorem sc_Schema___str__ : FnScope [("self" : Str)] [("self" : Str)] (defScope s_Schema___str__) := ⟨rfl, rfl, rfl, by decide +kernel, rfl, by decide +kernel, by decide +kernel⟩
theorem ok_str (D : MtD K "Schema" "__str__" "Schema.__str__" s_Schema___str__) (T : Blt mg) (M : ScC K mg) (S : ScS K mg) : MtAt P w K mg base "Schema" "__str__" [("self" : Str)] 1 (spStrS K) := by
  refine mt_at D sc_Schema___str__ (fun _ _ _ _ _ _ us hl => match us, hl with | [_], _ => rfl) (fun vs H Q E h => ?_) (fun f cdv A outer s H vs Q E hr h => ?_)
  · obtain ⟨x, z, ts, rfl, _⟩ := h
    rfl
  · obtain ⟨x, z, ts, rfl, ⟨dx, d, tp, o, kvs, hx, hd, tb, htp⟩, k⟩ := h
    refine ⟨_, (pss_one (ps_ret (pe_callTy SkE.call_str_str (by rfl) M.str (by decide +kernel) (pa_cons (pe_fld (pv 0) rfl) pa_nil)))), ?_⟩
    exact ⟨_, rfl, x, _, dx, _, _, rfl, hx, S.cl, S.text, rfl, z, rfl, k⟩
theorem sc_Schema___eq__ : FnScope [("self" : Str), ("other" : Str)] [("self" : Str), ("other" : Str)] (defScope s_Schema___eq__) := ⟨rfl, rfl, rfl, by decide +kernel, rfl, by decide +kernel, by decide +kernel⟩
theorem ok_eq (D : MtD K "Schema" "__eq__" "Schema.__eq__" s_Schema___eq__) (T : Blt mg) (M : ScC K mg) (S : ScS K mg) (SI : ScI K) : MtAt P w K mg base "Schema" "__eq__" [("self" : Str), ("other" : Str)] 1 (spEqS K) := by
  refine mt_at D sc_Schema___eq__ (fun _ _ _ _ _ _ us hl => match us, hl with | [_, _], _ => rfl) (fun vs H Q E h => ?_) (fun f cdv A outer s H vs Q E hr h => ?_)
  · obtain ⟨x, z, ts, y, rfl, _⟩ := h
    rfl
  · obtain ⟨x, z, ts, y, rfl, ⟨dx, d, tp, o, kvs, hx, hd, tb, htp⟩, h⟩ := h
    refine ⟨_, (pss_one (ps_ret (pe_and (pe_callB call_isi (by rfl) M.isinstance (by decide +kernel) (pa_cons (pv 1) (pa_cons (pe_glob (v := .ref (He.ga K "Schema")) (by rfl) S.at_ rfl) pa_nil))) (pe_one (pe_cmpR op_eq (pe_fld (pv 0) rfl) (pe_fld (pv 1) rfl) (nomark _)))))), ?_⟩
    rcases h with ⟨x', z', ts', rfl, ⟨dx', d', tp', o', kvs', hx', hd', tb', htp'⟩, k⟩ | ⟨⟨t, ht, ty⟩, k⟩
    · refine ⟨_, rfl, _, _, _, _, true, rfl, .own _, SI.ins hx', SI.own, true, rfl, iteT ?_⟩
      exact ⟨_, rfl, x, _, dx, _, _, rfl, hx, S.cl, S.text, rfl, _, rfl, x', _, dx', _, _, rfl, hx', S.cl, S.text, rfl, rfl, k⟩
    · exact ⟨_, rfl, _, _, _, _, false, rfl, .own _, ty, (SI.oth t ht).1, false, rfl, iteF k⟩
end
end Ow
/-! schemas, the program: Schema.__contains__ -/
namespace Ow
open PySem PySem.Spec L2
theorem ty_sqT {K : PySem.W.Frag} {H : Hp} {a : Addr} {xs : List V} (h : SqT K H a xs) : TyX K H (.ref a) (.type "tuple") := by
  rcases h with (h | ⟨o, h⟩) | ⟨o, its, n, h1, h2, _⟩
  · exact .base (.tup h)
  · exact .fTuple h
  · exact .kTuple h1 h2
theorem ty_sqL {K : PySem.W.Frag} {H : Hp} {a : Addr} {xs : List V} (h : SqL K H a xs) : TyX K H (.ref a) (.type "list") := by
  rcases h with (h | ⟨o, h⟩) | ⟨o, its, n, h1, h2, _⟩
  · exact .base (.lst h)
  · exact .base (.frz h)
  · exact .kList h1 h2
theorem any_str (names : List Str) (z : Str) : ((names.map PyData.str).any fun y => PyData.eqv y (.str z)) = decide (z ∈ names) := by
  induction names with
  | nil => simp
  | cons n names ih =>
    rw [List.map_cons, List.any_cons, ih]
    have e : PyData.eqv (.str n) (.str z) = decide (n = z) := by simp only [PyData.eqv]; rfl
    rw [e]
    by_cases h : z = n
    · subst h; simp
    · have h' : ¬ n = z := fun q => h q.symm
      simp [h, h']
theorem any_oth (names : List Str) {d : PyData} (h : ∀ n, PyData.eqv (.str n) d = false) : ((names.map PyData.str).any fun y => PyData.eqv y d) = false := by
  induction names with
  | nil => rfl
  | cons n names ih => rw [List.map_cons, List.any_cons, ih, h n] <;> rfl
theorem mem_pairs {ts : List Tab} {a b : Str} {cs : List Col} (nd : (ts.map Prod.fst).Nodup) (h : tabAt ts a = some cs) : (a, b) ∈ pairsOf ts ↔ b ∈ cs.map Col.name := by
  unfold pairsOf
  rw [List.mem_flatMap]
  constructor
  · rintro ⟨⟨n, ds⟩, h1, h2⟩
    obtain ⟨c, hc, e⟩ := List.mem_map.mp h2
    cases e
    have := tabAt_nodup nd h1
    rw [h] at this
    cases this
    exact List.mem_map_of_mem hc
  · intro hb
    obtain ⟨c, hc, rfl⟩ := List.mem_map.mp hb
    exact ⟨(a, cs), tabAt_mem h, List.mem_map.mpr ⟨c, hc, rfl⟩⟩
theorem no_pairs {ts : List Tab} {a b : Str} (h : a ∉ ts.map Prod.fst) : (a, b) ∉ pairsOf ts := by
  unfold pairsOf
  rw [List.mem_flatMap]
  rintro ⟨⟨n, ds⟩, h1, h2⟩
  obtain ⟨c, hc, e⟩ := List.mem_map.mp h2
  cases e
  exact h (List.mem_map_of_mem (f := Prod.fst) h1)
section
variable {P : Program} {w : World} {K : PySem.W.Frag} {mg : Str → Option Value} {base : Heap}
theorem sc_Schema___contains__ : FnScope [("self" : Str), ("thing" : Str)] [("self" : Str), ("thing" : Str)] (defScope s_Schema___contains__) := ⟨rfl, rfl, rfl, by decide +kernel, rfl, by decide +kernel, by decide +kernel⟩
theorem ok_in (D : MtD K "Schema" "__contains__" "Schema.__contains__" s_Schema___contains__) (T : Blt mg) (M : ScC K mg) (S : ScS K mg) : MtAt P w K mg base "Schema" "__contains__" [("self" : Str), ("thing" : Str)] 1 (spInS K) := by
  refine mt_at D sc_Schema___contains__ (fun _ _ _ _ _ _ us hl => match us, hl with | [_, _], _ => rfl) (fun vs H Q E h => ?_) (fun f cdv A outer s H vs Q E hr h => ?_)
  · obtain ⟨x, z, ts, v, d, rfl, _⟩ := h
    rfl
  · obtain ⟨x, z, ts, v, d, rfl, ⟨dx, df, tp, o, kvs, hx, hd, tb, htp⟩, ok, dp, th, k⟩ := h
    refine ⟨_, (pss_cons (ps_if (pt_val (pe_callB call_isi (by rfl) M.isinstance (by decide +kernel) (pa_cons (pv 1) (pa_cons (pe_bltn (v := .ty "tuple") (by rfl) M.tuple (by decide +kernel) rfl) pa_nil))))
      (pss_one (ps_ret (pe_and (pe_cmpR op_eq (pe_callB call_len_seq (by rfl) T.len PySem.boot_len (pa_cons (pv 1) pa_nil)) pe_int (nomark _)) (pe_and (pe_cmpR (op_inDS (hu65 hr)) (pe_ix ix_tup (pv 1) pe_int (fun _ _ => rfl)) (pe_fld (pv 0) rfl) rfl) (pe_one (pe_cmpR (op_inDS (hu65 hr)) (pe_ix ix_tup (pv 1) pe_int (fun _ _ => rfl)) (pe_callTy (call_tuple_dK rfl) (by rfl) T.tuple (by decide +kernel) (pa_cons (pe_dget (hu_of hr) (pe_fld (pv 0) rfl) (pe_ix ix_tup (pv 1) pe_int (fun _ _ => rfl)) (fun _ _ => rfl)) pa_nil)) rfl))))))
      pss_nil)
      (pss_one (ps_ret (pe_cmpR (op_inDS (hu65 hr)) (pv 1) (pe_fld (pv 0) rfl) rfl)))), ?_⟩
    have hnm := ok.names
    have etp : Dp K H (.ref tp) (.tuple ((ts.map Prod.fst).map PyData.str)) := by
      refine .tup (SqT.of htp) ?_
      have e : (ts.map fun t => V.str t.1) = (ts.map Prod.fst).map V.str := by rw [List.map_map] <;> rfl
      rw [e]
      exact DpAll.strs _
    have shn : SeqAt.shaped (.list ((ts.map Prod.fst).map PyData.str)) = true := (Shp.lst (n := 0) (shp_strs fun z hz => strOk_word (hnm z hz))).shaped (by decide)
    cases th with
    | non =>
      cases id dp
      refine ⟨_, rfl, _, _, _, _, false, rfl, .ty "tuple", .base .non, kit_ty (by decide +kernel), _, rfl, iteF ?_⟩
      refine ⟨_, rfl, _, rfl, x, _, dx, _, _, rfl, hx, S.cl, S.tables, rfl, _, _, dp, .inr etp, Shp.non (n := 0) |>.shaped (by decide), shn, ?_⟩
      rw [any_oth _ (fun _ => by simp [PyData.eqv])]
      exact k _ (Same.refl H)
    | bl b =>
      cases id dp
      refine ⟨_, rfl, _, _, _, _, false, rfl, .ty "tuple", .base (.bl b), kit_ty (by decide +kernel), _, rfl, iteF ?_⟩
      refine ⟨_, rfl, _, rfl, x, _, dx, _, _, rfl, hx, S.cl, S.tables, rfl, _, _, dp, .inr etp, Shp.bl (n := 0) b |>.shaped (by decide), shn, ?_⟩
      rw [any_oth _ (fun _ => by simp [PyData.eqv])]
      exact k _ (Same.refl H)
    | int i =>
      cases id dp
      refine ⟨_, rfl, _, _, _, _, false, rfl, .ty "tuple", .base (.int i), kit_ty (by decide +kernel), _, rfl, iteF ?_⟩
      refine ⟨_, rfl, _, rfl, x, _, dx, _, _, rfl, hx, S.cl, S.tables, rfl, _, _, dp, .inr etp, Shp.int (n := 0) i |>.shaped (by decide), shn, ?_⟩
      rw [any_oth _ (fun _ => by simp [PyData.eqv])]
      exact k _ (Same.refl H)
    | str hz =>
      rename_i y
      cases id dp
      refine ⟨_, rfl, _, _, _, _, false, rfl, .ty "tuple", .base (.str y), kit_ty (by decide +kernel), _, rfl, iteF ?_⟩
      refine ⟨_, rfl, _, rfl, x, _, dx, _, _, rfl, hx, S.cl, S.tables, rfl, _, _, dp, .inr etp, Shp.str (n := 0) hz |>.shaped (by decide), shn, ?_⟩
      rw [any_str]
      exact k _ (Same.refl H)
    | lst hz =>
      rename_i os
      obtain ⟨a, xs, rfl, hS, dpa⟩ := Dp.lst_inv dp
      refine ⟨_, rfl, _, _, _, _, false, rfl, .ty "tuple", ty_sqL hS, kit_ty (by decide +kernel), _, rfl, iteF ?_⟩
      refine ⟨_, rfl, _, rfl, x, _, dx, _, _, rfl, hx, S.cl, S.tables, rfl, _, _, dp, .inr etp, Shp.lst (n := 0) (fun d hd => by obtain ⟨o, ho, rfl⟩ := List.mem_map.mp hd; cases o with | none => exact .non | some y => exact .str (hz y ho)) |>.shaped (by decide), shn, ?_⟩
      rw [any_oth _ (fun _ => by simp [PyData.eqv])]
      exact k _ (Same.refl H)
    | tup hz =>
      rename_i os
      obtain ⟨a, xs, rfl, hS, dpa⟩ := Dp.tup_inv dp
      have hxl := DpAll.len dpa
      rw [List.length_map] at hxl
      refine ⟨_, rfl, _, _, _, _, true, rfl, .ty "tuple", ty_sqT hS, kit_ty (by decide +kernel), _, rfl, iteT ?_⟩
      refine ⟨_, rfl, a, _, rfl, .inr hS, rfl, _, rfl, ?_⟩
      refine ite2 (fun h1 => ?_) (fun h1 => ?_)
      · have h1 : V.int ((xs.length : Nat) : Int) = V.int 2 := of_decide_eq_true h1
        injection h1 with h1
        obtain ⟨o1, o2, rfl⟩ : ∃ o1 o2, os = [o1, o2] := by
          match os, hxl with
          | [], h => simp only [List.length_cons, List.length_nil] at h; omega
          | [_], h => simp only [List.length_cons, List.length_nil] at h; omega
          | [o1, o2], _ => exact ⟨o1, o2, rfl⟩
          | _ :: _ :: _ :: _, h => simp only [List.length_cons, List.length_nil] at h; omega
        cases dpa with
        | cons g1 g2 =>
          cases g2 with
          | cons g2 g3 =>
            cases g3
            cases dp_oD g1
            cases dp_oD g2
            have sh1 : SeqAt.shaped (oD o1) = true := by cases o1 with | none => exact Shp.non (n := 0) |>.shaped (by decide) | some y => exact Shp.str (n := 0) (hz y (by simp)) |>.shaped (by decide)
            have sh2 : SeqAt.shaped (oD o2) = true := by cases o2 with | none => exact Shp.non (n := 0) |>.shaped (by decide) | some y => exact Shp.str (n := 0) (hz y (by simp)) |>.shaped (by decide)
            refine ⟨_, rfl, a, _, _, _, rfl, rfl, hS, atI_nat (j := 0) rfl, _, rfl, x, _, dx, _, _, rfl, hx, S.cl, S.tables, rfl, _, _, dp_oV o1, .inr etp, sh1, shn, _, rfl, ?_⟩
            cases o1 with
            | none =>
              have e : (((ts.map Prod.fst).map PyData.str).any fun y => PyData.eqv y (oD none)) = false := any_oth _ fun _ => by simp [PyData.eqv, oD]
              rw [e]
              refine iteF ?_
              exact k _ (Same.refl H)
            | some a1 =>
              have e : (((ts.map Prod.fst).map PyData.str).any fun y => PyData.eqv y (oD (some a1))) = decide (a1 ∈ ts.map Prod.fst) := any_str _ _
              rw [e]
              by_cases h2 : a1 ∈ ts.map Prod.fst
              · rw [decide_eq_true h2]
                refine iteT ?_
                rcases tb.val (x := a1) with ⟨e1, _⟩ | ⟨cs, ad, o', kvs', e1, e2, e3, e4⟩
                · exact absurd h2 (tabAt_none.mp e1)
                refine ⟨_, rfl, a, _, _, _, rfl, rfl, hS, atI_nat (j := 1) rfl, _, rfl, x, _, dx, _, _, rfl, hx, S.cl, S.found, rfl, _, rfl, a, _, _, _, rfl, rfl, hS, atI_nat (j := 0) rfl, df, .ref ad, rfl, .inl ⟨kvs, Sum.inr a1, .inr ⟨o, hd⟩, rfl, e2.symm⟩, ad, kvs', rfl, .inr ⟨o', e3⟩, fun q hq => ?_⟩
                have edc : Dp K (upd H q (.tup (kvs'.map fun kv => kV kv.1))) (.ref q) (.tuple ((cs.map Col.name).map PyData.str)) := by
                  refine .tup (SqT.of upd_same) ?_
                  rw [e4.keys]
                  have e : (cs.map fun c => V.str c.name) = (cs.map Col.name).map V.str := by rw [List.map_map] <;> rfl
                  rw [e]
                  exact DpAll.strs _
                have shc : SeqAt.shaped (.list ((cs.map Col.name).map PyData.str)) = true := (Shp.lst (n := 0) (shp_strs fun z hz => by
                  obtain ⟨c, hc, rfl⟩ := List.mem_map.mp hz
                  exact strOk_word ((ok.tab _ (tabAt_mem e1)).cols c hc).w)).shaped (by decide)
                refine ⟨_, _, dp_oV o2, .inr edc, sh2, shc, ?_⟩
                cases o2 with
                | none =>
                  have e : (((cs.map Col.name).map PyData.str).any fun y => PyData.eqv y (oD none)) = false := any_oth _ fun _ => by simp [PyData.eqv, oD]
                  rw [e]
                  exact k _ (same_upd hq)
                | some b1 =>
                  have e : (((cs.map Col.name).map PyData.str).any fun y => PyData.eqv y (oD (some b1))) = decide (b1 ∈ cs.map Col.name) := any_str _ _
                  have e5 : inSch ts (.tuple ([some a1, some b1].map oD)) = decide (b1 ∈ cs.map Col.name) := by
                    show decide ((a1, b1) ∈ pairsOf ts) = _
                    rw [Bool.eq_iff_iff, decide_eq_true_iff, decide_eq_true_iff]
                    exact mem_pairs ok.nd e1
                  rw [e, ← e5]
                  exact k _ (same_upd hq)
              · rw [decide_eq_false h2]
                refine iteF ?_
                have e5 : inSch ts (.tuple ([some a1, o2].map oD)) = false := by
                  cases o2 with
                  | none => rfl
                  | some b1 =>
                    show decide ((a1, b1) ∈ pairsOf ts) = false
                    exact decide_eq_false (no_pairs h2)
                have q := k H (Same.refl H)
                rw [e5] at q
                exact q
      · have h1 : ¬ xs.length = 2 := fun z => h1 (decide_eq_true (by rw [z]; rfl))
        have e5 : inSch ts (.tuple (os.map oD)) = false := by
          match os, hxl with
          | [], _ => rfl
          | [o1], _ => cases o1 <;> rfl
          | [o1, o2], h => simp only [List.length_cons, List.length_nil] at h; omega
          | o1 :: o2 :: o3 :: r, _ => cases o1 <;> cases o2 <;> rfl
        have q := k H (Same.refl H)
        rw [e5] at q
        exact q
end
end Ow

/-! ways, the program: read_flags, is_link, read_move, split_word -/
namespace Ow
open PySem PySem.Spec PyProof.Rows L2 TL
theorem in_pair {ts : List Tab} (h : TabsOk ts) (t y : Str) : inSch ts (.tuple [.str t, .str y]) = (colIn ts t y).isSome := by
  show decide ((t, y) ∈ pairsOf ts) = _
  unfold colIn
  cases e : tabAt ts t with
  | none => exact decide_eq_false (no_pairs (tabAt_none.mp e))
  | some cs =>
    show _ = (colAt cs y).isSome
    cases e2 : colAt cs y with
    | none => exact decide_eq_false fun z => colAt_none.mp e2 ((mem_pairs h.nd e).mp z)
    | some c =>
      refine decide_eq_true ((mem_pairs h.nd e).mpr ?_)
      exact Classical.byContradiction fun z => by
        rw [colAt_none.mpr z] at e2
        cases e2
theorem dec_str (a b : Str) : decide (V.str a = V.str b) = decide (a = b) := by
  by_cases h : a = b
  · rw [h, decide_eq_true rfl, decide_eq_true rfl]
  · rw [decide_eq_false h, decide_eq_false fun z => h (by injection z)]
theorem isLk_inv {ts : List Tab} (ok : TabsOk ts) {t y : Str} (h : isLk ts t y = true) : ∃ c cs, colIn ts t y = some c ∧ tabAt ts t = some cs ∧ colAt cs y = some c ∧ c.kind = ("link" : Str) ∧ oV c.tgt = V.str (tgIn ts t y) := by
  unfold isLk at h
  split at h
  · rename_i c hc
    obtain ⟨cs, h1, h2, _, _, _, _, co⟩ := col_word ok hc
    have hk : c.kind = ("link" : Str) := of_decide_eq_true h
    refine ⟨c, cs, hc, h1, h2, hk, ?_⟩
    unfold tgIn
    rw [hc]
    rcases co.k with ⟨_, t', r', k1, _⟩ | ⟨k1, _⟩
    · show oV c.tgt = V.str (oS c.tgt)
      rw [k1]
      rfl
    · rcases k1 with z | z <;> rw [z] at hk <;> exact absurd hk (by decide)
  · cases h
theorem thg_pair {t y : Str} (h1 : Lo t) (h2 : Lo y) : Thg (.tuple [.str t, .str y]) := .tup (os := [some t, some y]) fun z hz => by
  simp only [List.mem_cons, Option.some.injEq, List.not_mem_nil, or_false] at hz
  rcases hz with rfl | rfl
  · exact h1.ok
  · exact h2.ok
theorem dp_pair {K : PySem.W.Frag} {H : Hp} {a : Addr} {t y : Str} (h : H a = some (.tup [.str t, .str y])) : Dp K H (.ref a) (.tuple [.str t, .str y]) := .tup (SqT.of h) (.cons (.str t) (.cons (.str y) .nil))
section
variable {P : Program} {w : World} {K : PySem.W.Frag} {mg : Str → Option Value} {base : Heap}
theorem sc_is_link : FnScope [("schema" : Str), ("table" : Str), ("column" : Str)] [("schema" : Str), ("table" : Str), ("column" : Str)] (defScope s_is_link) := ⟨rfl, rfl, rfl, by decide +kernel, rfl, by decide +kernel, by decide +kernel⟩
theorem ok_is_link (D : TopD K mg "is_link" s_is_link) (T : Blt mg) (M : ScC K mg) (S : ScS K mg) (F_in : MtAt P w K mg base "Schema" "__contains__" [("self" : Str), ("thing" : Str)] 1 (spInS K)) (F_kind : MtAt P w K mg base "Schema" "kind" [("self" : Str), ("table" : Str), ("column" : Str)] 3 (spPart K fun c => .str c.kind)) :
    FnAt P w K mg base "is_link" [("schema" : Str), ("table" : Str), ("column" : Str)] 4 (spIsLk K) := by
  refine fn_at D sc_is_link (fun _ _ _ _ _ _ us hl => match us, hl with | [_, _, _], _ => rfl) (fun vs H Q E h => ?_) (fun f cdv A outer s H vs Q E hr h => ?_)
  · obtain ⟨x, zz, t, y, ts, rfl, _⟩ := h
    rfl
  · obtain ⟨x, zz, t, y, ts, rfl, hS, ok, lt, ly, k⟩ := h
    refine ⟨_, (pss_one (ps_ret (pe_and (pe_cmpR (op_inO F_in (hr.mono (by decide))) (pe_tup (pa_cons (pv 1) (pa_cons (pv 2) pa_nil))) (pv 0) rfl) (pe_one (pe_cmpR op_eq (pe_mt F_kind S.cl (hr.mono (by decide)) (pv 0) (pa_cons (pv 1) (pa_cons (pv 2) pa_nil))) (pe_gs M.LINK (by rfl)) (nomark _)))))), ?_⟩
    refine ⟨_, rfl, _, rfl, by show 2 ≤ sizeLine; decide, fun p hp => ?_⟩
    have s1 := same_upd (o := .tup [V.str t, V.str y]) hp
    obtain ⟨dx, d, tp, o, kvs, hx, _⟩ := id hS
    refine ⟨_, rfl, x, dx, _, rfl, s1 _ _ hx, x, zz, ts, _, _, rfl, hS.same s1, ok, dp_pair upd_same, thg_pair lt ly, fun H2 s2 => ⟨_, rfl, _, rfl, ?_⟩⟩
    rw [in_pair ok]
    unfold isLk at k
    cases e : colIn ts t y with
    | none =>
      rw [e] at k
      exact iteF (k _ (s1.trans s2))
    | some c =>
      rw [e] at k
      obtain ⟨cs, h1, h2, _⟩ := col_word ok e
      refine iteT ⟨_, rfl, x, dx, _, rfl, s2 _ _ (s1 _ _ hx), rfl, _, rfl, _, rfl, x, zz, t, y, ts, cs, c, rfl, hS.same (s1.trans s2), h1, h2, fun H3 s3 => ⟨rfl, ?_⟩⟩
      show Q (.bl (decide (V.str c.kind = V.str ("link" : Str)))) H3
      rw [dec_str]
      exact k _ ((s1.trans s2).trans s3)
theorem sc_read_move : FnScope [("schema" : Str), ("table" : Str), ("name" : Str), ("child" : Str), ("dot" : Str), ("link" : Str)] [("schema" : Str), ("table" : Str), ("name" : Str)] (defScope s_read_move) := ⟨rfl, rfl, rfl, by decide +kernel, rfl, by decide +kernel, by decide +kernel⟩
theorem ok_read_move (D : TopD K mg "read_move" s_read_move) (T : Blt mg) (M : ScC K mg) (S : ScS K mg) (F_isl : FnAt P w K mg base "is_link" [("schema" : Str), ("table" : Str), ("column" : Str)] 4 (spIsLk K)) (F_target : MtAt P w K mg base "Schema" "target" [("self" : Str), ("table" : Str), ("column" : Str)] 3 (spPart K fun c => oV c.tgt)) :
    FnAt P w K mg base "read_move" [("schema" : Str), ("table" : Str), ("name" : Str)] 5 (spRdM K) := by
  refine fn_at D sc_read_move (fun _ _ _ _ _ _ us hl => match us, hl with | [_, _, _], _ => rfl) (fun vs H Q E h => ?_) (fun f cdv A outer s H vs Q E hr h => ?_)
  · obtain ⟨x, zz, t, z, ts, rfl, _⟩ := h
    rfl
  · obtain ⟨x, zz, t, z, ts, rfl, hS, ok, lt, lz, kn, ks⟩ := h
    refine ⟨_, (pss_cons (ps_if (pt_not (pt_val (pe_m1 PySem.F.slot_str_startswith PySem.F.type_str_startswith mt_startswith (pv 2) pe_str)))
      (pss_one (ps_ret (pe_ifExp (pt_val (pe_fn F_isl (hr.mono (by decide)) (by rfl) (pa_cons (pv 0) (pa_cons (pv 1) (pa_cons (pv 2) pa_nil))))) (pe_tup (pa_cons pe_bl (pa_cons (pv 2) (pa_cons (pe_mt F_target S.cl (hr.mono (by decide)) (pv 0) (pa_cons (pv 1) (pa_cons (pv 2) pa_nil))) pa_nil)))) pe_non)))
      pss_nil)
      (pss_cons (ps_asg (pe_partition (pe_slice sl_str (pv 2) (po_some pe_int) po_none) pe_str) (pg_tup rfl (pgs_cons (pg_name (i := 3) sc_read_move.nd rfl (Or.inl rfl)) (pgs_cons (pg_name (i := 4) sc_read_move.nd rfl (Or.inl rfl)) (pgs_cons (pg_name (i := 5) sc_read_move.nd rfl (Or.inl rfl)) pgs_nil)))))
      (pss_cons (ps_if (PW.pt (pw_and (pt_val (pe_fn F_isl (hr.mono (by decide)) (by rfl) (pa_cons (pv 0) (pa_cons (pv 3) (pa_cons (pv 5) pa_nil))))) (pw_and1 (pt_cmpR op_eq (pe_mt F_target S.cl (hr.mono (by decide)) (pv 0) (pa_cons (pv 3) (pa_cons (pv 5) pa_nil))) (pv 1) (nomark _)))))
      (pss_one (ps_ret (pe_tup (pa_cons pe_bl (pa_cons (pv 5) (pa_cons (pv 3) pa_nil))))))
      pss_nil)
      (pss_one (ps_ret pe_non))))), ?_⟩
    obtain ⟨dx, d, tp, o, kvs, hx, _⟩ := id hS
    refine ⟨_, rfl, ⟨_, rfl⟩, z, _, rfl, rfl, _, rfl, ?_⟩
    unfold readM at kn ks
    cases hs : Txt.startswith z ("~" : Str) with
    | false =>
      rw [if_pos hs] at kn ks
      refine iteT ?_
      refine ⟨_, rfl, _, rfl, _, rfl, x, zz, t, z, ts, rfl, hS, ok, lt, lz, fun H1 s1 => ⟨_, rfl, ?_⟩⟩
      cases hl : isLk ts t z with
      | false =>
        refine iteF ?_
        exact kn (by rw [hl]; rfl) _ s1
      | true =>
        refine iteT ?_
        obtain ⟨c, cs, e, h1, h2, hk, ht⟩ := isLk_inv ok hl
        refine ⟨_, rfl, _, rfl, x, dx, _, rfl, s1 _ _ hx, rfl, _, rfl, _, rfl, x, zz, t, z, ts, cs, c, rfl, hS.same s1, h1, h2, fun H2 s2 => ?_⟩
        refine ⟨by show 3 ≤ sizeLine; decide, fun p hp => ?_⟩
        exact ks _ (by rw [hl]; rfl) _ p ((s1.trans s2).trans (same_upd hp)) (by rw [← ht]; exact upd_same)
    | true =>
      rw [if_neg (by rw [hs]; simp)] at kn ks
      refine iteF ?_
      have lc : Lo (cutS z (some 1) none) := lz.cut _ _
      have hz : z.length ≤ sizeLine := by have := lz.2; rw [sizeLine_eq]; omega
      refine ⟨_, rfl, _, rfl, z, rfl, hz, ⟨_, rfl⟩, _, _, rfl, rfl, by decide +kernel, by have := lc.2; rw [sizeLine_eq]; omega, fun p hp => ?_⟩
      generalize hq : Txt.partition (cutS z (some 1) none) ("." : Str) = q at kn ks
      have l1 : Lo q.1 := by rw [← hq]; exact lc.head (by decide +kernel)
      have l2 : Lo q.2.2 := by rw [← hq]; exact lc.rest (by decide +kernel)
      have s1 := same_upd (o := .tup [V.str q.1, V.str q.2.1, V.str q.2.2]) hp
      refine ⟨p, _, rfl, SqT.of upd_same, rfl, _, _, rfl, _, _, rfl, _, _, rfl, rfl, ?_⟩
      refine ⟨_, rfl, _, rfl, _, rfl, x, zz, q.1, q.2.2, ts, rfl, hS.same s1, ok, l1, l2, fun H2 s2 => ⟨_, rfl, ?_⟩⟩
      cases hl : isLk ts q.1 q.2.2 with
      | false =>
        refine iteF (iteF ?_)
        exact kn (by show (if _ then _ else _) = _; rw [hl]; simp) _ (s1.trans s2)
      | true =>
        refine iteT ?_
        obtain ⟨c, cs, e, h1, h2, hk, ht⟩ := isLk_inv ok hl
        refine ⟨_, rfl, x, dx, _, rfl, s2 _ _ (s1 _ _ hx), rfl, _, rfl, _, rfl, x, zz, q.1, q.2.2, ts, cs, c, rfl, hS.same (s1.trans s2), h1, h2, fun H3 s3 => ⟨_, rfl, ?_⟩⟩
        refine ⟨by show scal (oV c.tgt) (V.str t) = true; rw [ht]; rfl, _, rfl, ?_⟩
        have ee : decide (oV c.tgt = V.str t) = decide (tgIn ts q.1 q.2.2 = t) := by rw [ht, dec_str]
        show if decide (oV c.tgt = V.str t) = true then _ else _
        rw [ee]
        have s3' := (s1.trans s2).trans s3
        by_cases ht2 : tgIn ts q.1 q.2.2 = t
        · rw [decide_eq_true ht2]
          refine iteT ?_
          refine ⟨_, rfl, _, rfl, by show 3 ≤ sizeLine; decide, fun p3 hp3 => ?_⟩
          exact ks (true, q.2.2, q.1) (by show (if _ then _ else _) = _; rw [if_pos ⟨hl, ht2⟩]) _ p3 (s3'.trans (same_upd hp3)) upd_same
        · rw [decide_eq_false ht2]
          refine iteF ?_
          exact kn (by show (if _ then _ else _) = _; rw [if_neg fun z => ht2 z.2]) _ s3'
theorem sc_split_word : FnScope [("word" : Str), ("name" : Str)] [("word" : Str)] (defScope s_split_word) := ⟨rfl, rfl, rfl, by decide +kernel, rfl, by decide +kernel, by decide +kernel⟩
theorem ok_split_word (D : TopD K mg "split_word" s_split_word) (T : Blt mg) (M : ScC K mg) : FnAt P w K mg base "split_word" [("word" : Str)] 1 spSplW := by
  refine fn_at D sc_split_word (fun _ _ _ _ _ _ us hl => match us, hl with | [_], _ => rfl) (fun vs H Q E h => ?_) (fun f cdv A outer s H vs Q E hr h => ?_)
  · obtain ⟨z, rfl, _⟩ := h
    rfl
  · obtain ⟨z, rfl, lz, k⟩ := h
    refine ⟨_, (pss_cons (ps_set (i := 1) sc_split_word.nd rfl (Or.inl rfl) (pe_ix ix_tup (pe_partition (pv 0) pe_str) pe_int (fun _ _ => rfl)))
      (pss_one (ps_ret (pe_tup (pa_cons (pv 1) (pa_cons (pe_slice sl_str (pv 0) (po_some (pe_callB call_len_str (by rfl) T.len PySem.boot_len (pa_cons (pv 1) pa_nil))) po_none) pa_nil)))))), ?_⟩
    have hz : z.length ≤ sizeLine := by have := lz.2; rw [sizeLine_eq]; omega
    refine ⟨_, rfl, ⟨_, rfl⟩, z, _, rfl, rfl, by decide +kernel, hz, fun p hp => ?_⟩
    refine ⟨p, _, _, _, rfl, rfl, SqT.of upd_same, atI_nat (j := 0) rfl, ?_⟩
    have s1 := same_upd (o := .tup [V.str (Txt.partition z ("[" : Str)).1, V.str (Txt.partition z ("[" : Str)).2.1, V.str (Txt.partition z ("[" : Str)).2.2]) hp
    have hn : (wName z).length ≤ sizeLine := Nat.le_trans (wName_le z) hz
    refine ⟨_, rfl, _, rfl, _, rfl, _, rfl, hn, _, rfl, z, rfl, hz, by show 2 ≤ sizeLine; decide, fun q hq => ?_⟩
    exact k _ q (s1.trans (same_upd hq)) upd_same
theorem sc_read_flags : FnScope [("schema" : Str), ("table" : Str), ("text" : Str), ("flags" : Str), ("at" : Str), ("flag" : Str)] [("schema" : Str), ("table" : Str), ("text" : Str)] (defScope s_read_flags) := ⟨rfl, rfl, rfl, by decide +kernel, rfl, by decide +kernel, by decide +kernel⟩
/-- while the flags are looked at -/
def FlI (H : Hp) (x l : Addr) (t z : Str) (fs : List Str) (ts : List Tab) (i : Nat) (σ : L2.St) (H' : Hp) : Prop := ∃ x4 x5 : Option V, σ = [some (.ref x), some (.str t), some (.str z), some (.ref l), x4, x5] ∧ Same H H' ∧ H' l = some (.lst (fs.map V.str)) ∧ ∀ j, j < i → ∀ f, fs[j]? = some f → isFl ts t f = true ∧ f ∉ fs.take j
theorem ok_read_flags (D : TopD K mg "read_flags" s_read_flags) (T : Blt mg) (M : ScC K mg) (S : ScS K mg) (Y : WyC mg) (F_in : MtAt P w K mg base "Schema" "__contains__" [("self" : Str), ("thing" : Str)] 1 (spInS K)) (F_kind : MtAt P w K mg base "Schema" "kind" [("self" : Str), ("table" : Str), ("column" : Str)] 3 (spPart K fun c => .str c.kind)) :
    FnAt P w K mg base "read_flags" [("schema" : Str), ("table" : Str), ("text" : Str)] 4 (spRdF K) := by
  refine fn_at D sc_read_flags (fun _ _ _ _ _ _ us hl => match us, hl with | [_, _, _], _ => rfl) (fun vs H Q E h => ?_) (fun f cdv A outer s H vs Q E hr h => ?_)
  · obtain ⟨x, zz, t, z, ts, rfl, _⟩ := h
    rfl
  · obtain ⟨x, zz, t, z, ts, rfl, hS, ok, lt, lz, kn, ks⟩ := h
    refine ⟨_, (pss_cons (ps_if (pt_cmpR op_eq (pv 2) pe_str (nomark _))
      (pss_one (ps_ret (pe_tup pa_nil)))
      pss_nil)
      (pss_cons (ps_if (PW.pt (pw_or (pt_not (pt_val (pe_m1 PySem.F.slot_str_startswith PySem.F.type_str_startswith mt_startswith (pv 2) pe_str))) (pw_or1 (pt_not (pt_val (pe_m1 PySem.F.slot_str_endswith PySem.F.type_str_endswith mt_endswith (pv 2) pe_str))))))
      (pss_one (ps_ret pe_non))
      pss_nil)
      (pss_cons (ps_set (i := 3) sc_read_flags.nd rfl (Or.inl rfl) (pe_split (pe_slice sl_str (pv 2) (po_some pe_int) (po_some (pe_un un_neg pe_int))) pe_str))
      (pss_cons (ps_for PassesOwn.never rfl (pi_enum (by rfl) M.enumerate (pa_cons (pv 3) pa_nil)) (pg_tup rfl (pgs_cons (pg_name (i := 4) sc_read_flags.nd rfl (Or.inl rfl)) (pgs_cons (pg_name (i := 5) sc_read_flags.nd rfl (Or.inl rfl)) pgs_nil)))
      (pss_one (ps_if (PW.pt (pw_or (pt_cmpR (op_notInO F_in (hr.mono (by decide))) (pe_tup (pa_cons (pv 1) (pa_cons (pv 5) pa_nil))) (pv 0) rfl) (pw_or (pt_cmpR op_ne (pe_mt F_kind S.cl (hr.mono (by decide)) (pv 0) (pa_cons (pv 1) (pa_cons (pv 5) pa_nil))) (pe_gs M.FLAG (by rfl)) (nomark _)) (pw_or1 (pt_cmpR op_in_seq (pv 5) (pe_slice sl_list (pv 3) po_none (po_some (pv 4))) rfl)))))
      (pss_one (ps_ret pe_non))
      pss_nil)))
      (pss_one (ps_ret (pe_callTy call_tuple_of (by rfl) T.tuple (by decide +kernel) (pa_cons (pe_callB cr_sortedS (by rfl) Y.sorted (by decide +kernel) (pa_cons (pv 3) pa_nil)) pa_nil)))))))), ?_⟩
    obtain ⟨dx, d, tp, o, kvs, hx, _⟩ := id hS
    refine ⟨_, rfl, rfl, _, rfl, ?_⟩
    show if decide (V.str z = V.str ("" : Str)) = true then _ else _
    rw [dec_str]
    unfold readF at kn ks
    by_cases h0 : z = ("" : Str)
    · rw [decide_eq_true h0]
      rw [if_pos h0] at ks
      refine iteT ⟨by show 0 ≤ sizeLine; decide, fun p hp => ?_⟩
      exact ks [] rfl _ p (same_upd hp) upd_same
    rw [decide_eq_false h0]
    rw [if_neg h0] at kn ks
    refine iteF ?_
    refine ⟨_, rfl, ⟨_, rfl⟩, z, _, rfl, rfl, _, rfl, ?_⟩
    cases c1 : Txt.startswith z ("[" : Str) with
    | false =>
      refine iteT (iteT ?_)
      exact kn (by rw [if_pos (.inl c1)]) _ (Same.refl H)
    | true =>
    refine iteF ?_
    refine ⟨_, rfl, ⟨_, rfl⟩, z, _, rfl, rfl, _, rfl, ?_⟩
    cases c2 : Txt.endswith z ("]" : Str) with
    | false =>
      refine iteT ?_
      exact kn (by rw [if_pos (.inr c2)]) _ (Same.refl H)
    | true =>
    refine iteF ?_
    rw [if_neg (by rw [c1, c2]; simp)] at kn ks
    have li : Lo (inner z) := lz.cut _ _
    have hz : z.length ≤ sizeLine := by have := lz.2; rw [sizeLine_eq]; omega
    refine ⟨_, rfl, _, rfl, _, rfl, _, rfl, z, rfl, hz, ⟨_, rfl⟩, _, _, rfl, rfl, by decide +kernel, by have := li.2; show (inner z).length + 2 ≤ _; rw [sizeLine_eq]; omega, fun l hl => ?_⟩
    have s1 := same_upd (o := .lst ((flagsIn z).map V.str)) hl
    have lf : ∀ f ∈ flagsIn z, Lo f := fun f hf => li.split (y := ("," : Str)) (by decide +kernel) (fun p hp => split_len hp) hf
    refine ⟨_, rfl, l, _, rfl, SqL.of upd_same, ?_⟩
    have hfl : ((flagsIn z).map V.str).length = (flagsIn z).length := List.length_map ..
    refine for_it (walk_enum (K := K) (a := l) (xs := (flagsIn z).map V.str)) (FlI H x l t z (flagsIn z) ts)
      ⟨_, _, rfl, s1, upd_same, fun _ z => absurd z (Nat.not_lt_zero _)⟩ (fun i σ H' _ ⟨_, _, _, _, h, _⟩ => SqL.of h) ?_ ?_
    · rintro i v σ H2 H3 hi ⟨x4, x5, rfl, s2, hl2, old⟩ ⟨tp, xi, xl, rfl, htp, rfl, e1, e2⟩
      cases e1
      have e2 : ((flagsIn z).map V.str)[i]? = some xl := e2
      rw [List.getElem?_map] at e2
      obtain ⟨fl, hx2, rfl⟩ := Option.map_eq_some_iff.mp e2
      clear e2
      have s3 := s2.trans (same_upd (o := .tup [V.int (i : Nat), V.str fl]) htp)
      have hm := List.mem_of_getElem? hx2
      have nope : ¬ (isFl ts t fl = true ∧ fl ∉ (flagsIn z).take i) → (if flsOk ts t (flagsIn z) then some (srt (flagsIn z)) else none) = none := fun q => if_neg fun z => q (z i fl hx2)
      refine ⟨tp, _, rfl, SqT.of upd_same, rfl, _, _, rfl, _, _, rfl, rfl, ?_⟩
      refine ⟨_, rfl, _, rfl, by show 2 ≤ sizeLine; decide, fun p hp => ?_⟩
      have s4 := s3.trans (same_upd (o := .tup [V.str t, V.str fl]) hp)
      refine ⟨_, rfl, x, dx, _, rfl, s4 _ _ hx, x, zz, ts, _, _, rfl, hS.same s4, ok, dp_pair upd_same, thg_pair lt (lf fl hm), fun H5 s5 => ⟨_, rfl, _, rfl, ?_⟩⟩
      have s45 := s4.trans s5
      rw [in_pair ok]
      cases e : colIn ts t fl with
      | none =>
        refine iteT (iteT ?_)
        refine kn (nope fun q => ?_) _ s45
        have := q.1
        unfold isFl at this
        rw [e] at this
        cases this
      | some c =>
      obtain ⟨cs, h1, h2, _⟩ := col_word ok e
      refine iteF ?_
      refine ⟨_, rfl, x, dx, _, rfl, s45 _ _ hx, rfl, _, rfl, _, rfl, x, zz, t, fl, ts, cs, c, rfl, hS.same s45, h1, h2, fun H6 s6 => ⟨rfl, _, rfl, ?_⟩⟩
      have s46 := s45.trans s6
      show if (!decide (V.str c.kind = V.str ("flag" : Str))) = true then _ else _
      rw [dec_str]
      have eF : isFl ts t fl = decide (c.kind = ("flag" : Str)) := by unfold isFl; rw [e]
      by_cases ck : c.kind = ("flag" : Str)
      case neg =>
        rw [decide_eq_false ck]
        refine iteT (iteT ?_)
        exact kn (nope fun q => by rw [eF, decide_eq_false ck] at q; cases q.1) _ s46
      rw [decide_eq_true ck]
      refine iteF ?_
      have hl6 := s6 _ _ (s5 _ _ (same_upd (o := .tup [V.str t, V.str fl]) hp _ _ (same_upd (o := .tup [V.int (i : Nat), V.str fl]) htp _ _ hl2)))
      refine ⟨_, rfl, _, rfl, _, rfl, _, rfl, l, _, rfl, SqL.of hl6, fun q hq => ?_⟩
      rw [cut_to, ← List.map_take]
      have s7 := s46.trans (same_upd (o := .lst (((flagsIn z).take i).map V.str)) hq)
      refine ⟨q, _, rfl, .inl (SqL.of upd_same), rfl, flat_strs _, _, rfl, ?_⟩
      show if inV (V.str fl) (((flagsIn z).take i).map V.str) = true then _ else _
      rw [inV_str]
      by_cases ct : fl ∈ (flagsIn z).take i
      · rw [decide_eq_true ct]
        refine iteT ?_
        exact kn (nope fun q => q.2 ct) _ s7
      · rw [decide_eq_false ct]
        refine iteF ?_
        refine ⟨_, _, rfl, s7, ?_, fun j hj g hg => ?_⟩
        · rw [upd_ne (ne_of_none hl6 hq)]
          exact hl6
        · rcases Nat.lt_or_ge j i with h | h
          · exact old j h g hg
          · have ej : j = i := by omega
            subst ej
            rw [hx2] at hg
            cases hg
            exact ⟨by rw [eF, decide_eq_true ck], ct⟩
    · rintro σ H2 ⟨x4, x5, rfl, s2, hl2, old⟩
      rw [hfl] at old
      have fok : flsOk ts t (flagsIn z) := fun j g hg => old j (List.getElem?_eq_some_iff.mp hg).1 g hg
      obtain ⟨nd, hall⟩ := flsOk_iff.mp fok
      have few := fls_few ok nd hall
      refine ⟨_, rfl, l, flagsIn z, rfl, SqL.of hl2, by omega, fun ys p pm so hp => ?_⟩
      refine ⟨p, _, rfl, .inl ⟨SqL.of upd_same, fun a ha => ?_⟩⟩
      refine ks (srt (flagsIn z)) (if_pos fok) _ a ((s2.trans (same_upd hp)).trans (same_upd ha)) ?_
      rw [srt_of pm so]
      exact upd_same
end
end Ow

/-! ways, the program: Way.__init__ -/
namespace Ow
open PySem PySem.Spec PyProof.Rows L2 TL
/-- what the top says of the errors -/
structure ExW (P : Program) (K : PySem.W.Frag) (mg : Str → Option Value) : Prop where
  BadWay : ClsAt P K mg "BadWay" "BadWay.__init__" s_BadWay___init__ [("at" : Str)]
theorem seq_mid {s1 u : TS} {D : Ends} {σ : L2.St} {H : Hp} (Good : L2.St → Hp → Prop) (h : ∀ N : L2.St → Hp → Prop, (∀ σ' H', Good σ' H' → N σ' H') → s1 { D with nx := N } σ H) (hk : ∀ σ' H', Good σ' H' → u D σ' H') : tSeq s1 u D σ H := h (u D) hk
theorem sch_but {K : PySem.W.Frag} {H H' : Hp} {x a : Addr} {u : HO} {z : Str} {ts : List Tab} (h : SchAt K H a z ts) (hx : H x = some u) (h1 : ∀ kvs, u ≠ .dK kvs) (h2 : ∀ xs, u ≠ .tup xs) (h3 : ∀ o w, u ≠ .frz o w) (n : a ≠ x) (ot : ∀ b o, b ≠ x → H b = some o → H' b = some o) : SchAt K H' a z ts := by
  obtain ⟨dx, d, tp, o, kvs, e1, e2, e3, e4⟩ := h
  exact ⟨dx, d, tp, o, kvs, ot _ _ n e1, ot _ _ (ne_of e2 hx fun z => h3 _ _ z.symm) e2, e3.but hx h2 h3 ot, ot _ _ (ne_of e4 hx fun z => h2 _ z.symm) e4⟩
theorem tail_app {es1 : List Stp} {la e : Stp} : ((es1 ++ [la]) ++ [e]).tail = (es1 ++ [la]).tail ++ [e] := by
  cases es1 <;> rfl
theorem readM_word {ts : List Tab} (ok : TabsOk ts) {t z : Str} {m : Bool × Str × Str} (h : readM ts t z = some m) : isW m.2.2 = true := by
  unfold readM at h
  split at h
  · split at h
    · rename_i hk
      cases h
      obtain ⟨c, cs, e, _, _, hkk, ht⟩ := isLk_inv ok hk
      obtain ⟨_, _, _, _, _, _, _, co⟩ := col_word ok e
      rcases co.k with ⟨_, t', r', k1, _, k3, _⟩ | ⟨_, k1, _⟩
      · show isW (tgIn ts t z) = true
        unfold tgIn
        rw [e]
        show isW (oS c.tgt) = true
        rw [k1]
        exact ok.names _ k3
      · rw [k1] at ht
        cases ht
    · cases h
  · dsimp only at h
    split at h
    · rename_i hk
      cases h
      obtain ⟨c, cs, e, _⟩ := isLk_inv ok hk.1
      obtain ⟨_, _, _, _, _, _, htw, _⟩ := col_word ok e
      exact htw
    · cases h
theorem enTb_app (es : List Stp) (e : Stp) : enTb (es ++ [e]) = e.tb := by unfold enTb; rw [List.getLast?_append]; rfl
section
variable {P : Program} {w : World} {K : PySem.W.Frag} {mg : Str → Option Value} {base : Heap}
theorem sc_Way___init__ : FnScope [("self" : Str), ("schema" : Str), ("text" : Str), ("words" : Str), ("steps" : Str), ("moves" : Str), ("tables" : Str), ("asked" : Str), ("at" : Str), ("word" : Str), ("name" : Str), ("flags" : Str), ("table" : Str), ("move" : Str), ("found" : Str)] [("self" : Str), ("schema" : Str), ("text" : Str)] (defScope s_Way___init__) := ⟨rfl, rfl, rfl, by decide +kernel, rfl, by decide +kernel, by decide +kernel⟩
/-- while the words are read: x the new way, l words, q1 steps, q2 moves, q3 tables, q4 asked -/
def WyI (K : PySem.W.Frag) (H : Hp) (x s l q1 q2 q3 q4 dx : Addr) (z : Str) (ts : List Tab) (ws : List Str) (fin : Except Nat (List Stp)) (i : Nat) (σ : L2.St) (H' : Hp) : Prop := ∃ (x8 x9 x10 x11 x12 x13 x14 : Option V) (es : List Stp) (ms as : List V),
  σ = [some (.ref x), some (.ref s), some (.str z), some (.ref l), some (.ref q1), some (.ref q2), some (.ref q3), some (.ref q4), x8, x9, x10, x11, x12, x13, x14] ∧ (∀ b o, b ≠ x → H b = some o → H' b = some o) ∧
  H' x = some (.ins (He.ga K "Way") dx [(("schema" : Str), .ref s)]) ∧ H' l = some (.lst (ws.map V.str)) ∧
  H' q1 = some (.lst (es.map fun e => .str e.nm)) ∧ H' q2 = some (.lst ms) ∧ H' q3 = some (.lst (es.map fun e => .str e.tb)) ∧ H' q4 = some (.lst as) ∧
  DpAll K (tups H') ms (es.tail.map dMv) ∧ DpAll K (tups H') as (es.map dFl) ∧ es.length = i ∧ readW ts (ws.drop i) es = fin ∧ (∀ e ∈ es, isW e.tb = true)
theorem ok_way (D : MtD K "Way" "__init__" "Way.__init__" s_Way___init__) (T : Blt mg) (M : ScC K mg) (S : ScS K mg) (W : WyS K mg) (Y : WyC mg) (C : ExW P K mg) (F_spl : FnAt P w K mg base "split_word" [("word" : Str)] 1 spSplW) (F_rdf : FnAt P w K mg base "read_flags" [("schema" : Str), ("table" : Str), ("text" : Str)] 4 (spRdF K)) (F_rdm : FnAt P w K mg base "read_move" [("schema" : Str), ("table" : Str), ("name" : Str)] 5 (spRdM K)) :
    MtAtX P w K mg base "Way" "__init__" [("self" : Str), ("schema" : Str), ("text" : Str)] 6 (spWay K) := by
  refine mt_atX D sc_Way___init__ (fun _ _ _ _ _ _ us hl => match us, hl with | [_, _, _], _ => rfl) (fun vs H Q E h => ?_) (fun f cdv A outer s H vs Q E hr h => ?_)
  · obtain ⟨x, s, dx, v, zz, ts, rfl, _⟩ := h
    rfl
  · obtain ⟨x, sc, dx, v, zz, ts, rfl, hx, hS, ok, hv⟩ := h
    refine ⟨_, (pss_cons (ps_if (pt_not (pt_val (pe_callB call_isi (by rfl) M.isinstance (by decide +kernel) (pa_cons (pv 2) (pa_cons (pe_bltn (v := .ty "str") (by rfl) M.str (by decide +kernel) rfl) pa_nil)))))
      (pss_one (ps_raise rfl (takes_of rfl rfl rfl rfl) (pmk_x C.BadWay (fun _ _ _ _ _ _ _ u us ws h1 h2 => match us, ws, h1, h2 with | [_], [], _, _ => rfl) (hr.mono (by decide)) (by rfl) (pa_cons (pe_un un_neg pe_int) pa_nil))))
      pss_nil)
      (pss_cons (ps_fld (pv 0) (pv 1) rfl)
      (pss_cons (ps_set (i := 3) sc_Way___init__.nd rfl (Or.inl rfl) (pe_split (pv 2) pe_str))
      (pss_cons (ps_set (i := 4) sc_Way___init__.nd rfl (Or.inl rfl) (pe_lst pa_nil))
      (pss_cons (ps_set (i := 5) sc_Way___init__.nd rfl (Or.inl rfl) (pe_lst pa_nil))
      (pss_cons (ps_set (i := 6) sc_Way___init__.nd rfl (Or.inl rfl) (pe_lst pa_nil))
      (pss_cons (ps_set (i := 7) sc_Way___init__.nd rfl (Or.inl rfl) (pe_lst pa_nil))
      (pss_cons (ps_for (passes_of rfl) rfl (pi_enum (by rfl) M.enumerate (pa_cons (pv 3) pa_nil)) (pg_tup rfl (pgs_cons (pg_name (i := 8) sc_Way___init__.nd rfl (Or.inl rfl)) (pgs_cons (pg_name (i := 9) sc_Way___init__.nd rfl (Or.inl rfl)) pgs_nil)))
      (pss_cons (ps_asg (pe_fn F_spl (hr.mono (by decide)) (by rfl) (pa_cons (pv 9) pa_nil)) (pg_tup rfl (pgs_cons (pg_name (i := 10) sc_Way___init__.nd rfl (Or.inl rfl)) (pgs_cons (pg_name (i := 11) sc_Way___init__.nd rfl (Or.inl rfl)) pgs_nil))))
      (pss_cons (ps_if (pt_cmpR op_eq (pv 8) pe_int (nomark _))
      (PSs.nox (pss_one (ps_set (i := 12) sc_Way___init__.nd rfl (Or.inl rfl) (pe_ifExp (pt_cmpR op_in_seq (pv 10) (pe_fld (pv 1) rfl) rfl) (pv 10) pe_non))))
      (PSs.nox (pss_cons (ps_set (i := 13) sc_Way___init__.nd rfl (Or.inl rfl) (pe_fn F_rdm (hr.mono (by decide)) (by rfl) (pa_cons (pv 1) (pa_cons (pe_ix ix_list (pv 6) (pe_un un_neg pe_int) (fun _ _ => rfl)) (pa_cons (pv 10) pa_nil)))))
      (pss_cons (ps_expr (pe_bm PySem.F.plainAttrs_list PySem.F.slot_list_append PySem.F.type_list_append mt_append (pv 5) (pa_cons (pv 13) pa_nil)))
      (pss_one (ps_set (i := 12) sc_Way___init__.nd rfl (Or.inl rfl) (pe_ifExp (pt_cmpR op_isN (pv 13) pe_non (nomark _)) pe_non (pe_ix ix_tup (pv 13) pe_int (fun _ _ => rfl)))))))))
      (pss_cons (ps_set (i := 14) sc_Way___init__.nd rfl (Or.inl rfl) (pe_ifExp (pt_cmpR op_isN (pv 12) pe_non (nomark _)) pe_non (pe_fn F_rdf (hr.mono (by decide)) (by rfl) (pa_cons (pv 1) (pa_cons (pv 12) (pa_cons (pv 11) pa_nil))))))
      (pss_cons (ps_if (PW.pt (pw_or (pt_cmpR op_isN (pv 14) pe_non (nomark _)) (pw_or1 (pt_cmpR op_gt (pv 8) (pe_gi Y.most (by rfl)) (nomark _)))))
      (pss_one (ps_raise rfl (takes_of rfl rfl rfl rfl) (pmk_x C.BadWay (fun _ _ _ _ _ _ _ u us ws h1 h2 => match us, ws, h1, h2 with | [_], [], _, _ => rfl) (hr.mono (by decide)) (by rfl) (pa_cons (pv 8) pa_nil))))
      pss_nil)
      (PSs.nox (pss_cons (ps_expr (pe_bm PySem.F.plainAttrs_list PySem.F.slot_list_append PySem.F.type_list_append mt_append (pv 4) (pa_cons (pv 10) pa_nil)))
      (pss_cons (ps_expr (pe_bm PySem.F.plainAttrs_list PySem.F.slot_list_append PySem.F.type_list_append mt_append (pv 6) (pa_cons (pv 12) pa_nil)))
      (pss_one (ps_expr (pe_bm PySem.F.plainAttrs_list PySem.F.slot_list_append PySem.F.type_list_append mt_append (pv 7) (pa_cons (pv 14) pa_nil))))))))))))
      (PSs.nox (pss_cons (ps_fld (pv 0) (pe_ix ix_list (pv 6) pe_int (fun _ _ => rfl)) rfl)
      (pss_cons (ps_fld (pv 0) (pe_ix ix_list (pv 6) (pe_un un_neg pe_int) (fun _ _ => rfl)) rfl)
      (pss_cons (ps_fld (pv 0) (pe_callTy call_tuple_of (by rfl) T.tuple (by decide +kernel) (pa_cons (pv 6) pa_nil)) rfl)
      (pss_cons (ps_fld (pv 0) (pe_callTy call_tuple_of (by rfl) T.tuple (by decide +kernel) (pa_cons (pv 7) pa_nil)) rfl)
      (pss_cons (ps_fld (pv 0) (pe_callTy call_tuple_of (by rfl) T.tuple (by decide +kernel) (pa_cons (pe_slice sl_list (pv 4) (po_some pe_int) po_none) pa_nil)) rfl)
      (pss_one (ps_fld (pv 0) (pe_callTy call_tuple_of (by rfl) T.tuple (by decide +kernel) (pa_cons (pv 5) pa_nil)) rfl)))))))))))))))), ?_⟩
    rcases hv with ⟨z, rfl, lz, kE, k⟩ | ⟨Ty, hty, hk, kE⟩
    case inr =>
      refine ⟨_, rfl, _, _, _, _, false, rfl, .ty "str", hty, hk, _, rfl, iteT ?_⟩
      exact ⟨1, rfl, rx_ (fs := [("at" : Str)]) rfl (by simp) (by decide) fun d2 H2 n2 s2 h2 => kE H2 d2 (fun b o _ e => s2 _ _ e) h2⟩
    refine ⟨_, rfl, _, _, _, _, true, rfl, .ty "str", .base (.str z), kit_ty (by decide +kernel), _, rfl, iteF ?_⟩
    obtain ⟨fin, hrd⟩ : ∃ r, readW ts (wsOf z) [] = r := ⟨_, rfl⟩
    refine ⟨_, rfl, _, rfl, x, _, dx, _, rfl, hx, W.cl, W.schema, by decide, ?_⟩
    refine ⟨_, rfl, ⟨_, rfl⟩, z, _, rfl, rfl, by decide +kernel, by have := lz.2; rw [sizeLine_eq]; omega, fun l hl => ?_⟩
    generalize eH1 : upd H x _ = H1 at hl ⊢
    have xs1 : H1 x = some (.ins (He.ga K "Way") dx [(("schema" : Str), V.ref sc)]) := by rw [← eH1]; exact upd_same
    have ot1 : ∀ b o, b ≠ x → H b = some o → H1 b = some o := fun b o nb e => by rw [← eH1, upd_ne nb]; exact e
    clear eH1
    generalize eH2 : upd H1 l _ = H2
    have hl2 : H2 l = some (.lst ((wsOf z).map V.str)) := by rw [← eH2]; exact upd_same
    have t2 : Same H1 H2 := by rw [← eH2]; exact same_upd hl
    clear eH2
    refine ⟨by show 0 ≤ sizeLine; decide, fun q1 hq1 => ?_⟩
    generalize eH3 : upd H2 q1 _ = H3
    have h31 : H3 q1 = some (.lst []) := by rw [← eH3]; exact upd_same
    have t3 : Same H2 H3 := by rw [← eH3]; exact same_upd hq1
    clear eH3
    refine ⟨by show 0 ≤ sizeLine; decide, fun q2 hq2 => ?_⟩
    generalize eH4 : upd H3 q2 _ = H4
    have h42 : H4 q2 = some (.lst []) := by rw [← eH4]; exact upd_same
    have t4 : Same H3 H4 := by rw [← eH4]; exact same_upd hq2
    clear eH4
    refine ⟨by show 0 ≤ sizeLine; decide, fun q3 hq3 => ?_⟩
    generalize eH5 : upd H4 q3 _ = H5
    have h53 : H5 q3 = some (.lst []) := by rw [← eH5]; exact upd_same
    have t5 : Same H4 H5 := by rw [← eH5]; exact same_upd hq3
    clear eH5
    refine ⟨by show 0 ≤ sizeLine; decide, fun q4 hq4 => ?_⟩
    generalize eH6 : upd H5 q4 _ = H6
    have h64 : H6 q4 = some (.lst []) := by rw [← eH6]; exact upd_same
    have t6 : Same H5 H6 := by rw [← eH6]; exact same_upd hq4
    clear eH6
    have n12 : q1 ≠ q2 := ne_of_none h31 hq2
    have n13 : q1 ≠ q3 := ne_of_none (t4 _ _ h31) hq3
    have n14 : q1 ≠ q4 := ne_of_none (t5 _ _ (t4 _ _ h31)) hq4
    have n23 : q2 ≠ q3 := ne_of_none h42 hq3
    have n24 : q2 ≠ q4 := ne_of_none (t5 _ _ h42) hq4
    have n34 : q3 ≠ q4 := ne_of_none h53 hq4
    have hl6 := t6 _ _ (t5 _ _ (t4 _ _ (t3 _ _ hl2)))
    have hx6 := t6 _ _ (t5 _ _ (t4 _ _ (t3 _ _ (t2 _ _ xs1))))
    have ot6 : ∀ b o, b ≠ x → H b = some o → H6 b = some o := fun b o nb e => t6 _ _ (t5 _ _ (t4 _ _ (t3 _ _ (t2 _ _ (ot1 _ _ nb e)))))
    have f1 : ∀ b o, b ≠ x → H b = some o → b ≠ q1 := fun b o nb e => ne_of_none (t2 _ _ (ot1 _ _ nb e)) hq1
    have f2 : ∀ b o, b ≠ x → H b = some o → b ≠ q2 := fun b o nb e => ne_of_none (t3 _ _ (t2 _ _ (ot1 _ _ nb e))) hq2
    have f3 : ∀ b o, b ≠ x → H b = some o → b ≠ q3 := fun b o nb e => ne_of_none (t4 _ _ (t3 _ _ (t2 _ _ (ot1 _ _ nb e)))) hq3
    have f4 : ∀ b o, b ≠ x → H b = some o → b ≠ q4 := fun b o nb e => ne_of_none (t5 _ _ (t4 _ _ (t3 _ _ (t2 _ _ (ot1 _ _ nb e))))) hq4
    have nx1 : x ≠ q1 := ne_of_none (t2 _ _ xs1) hq1
    have nx2 : x ≠ q2 := ne_of_none (t3 _ _ (t2 _ _ xs1)) hq2
    have nx3 : x ≠ q3 := ne_of_none (t4 _ _ (t3 _ _ (t2 _ _ xs1))) hq3
    have nx4 : x ≠ q4 := ne_of_none (t5 _ _ (t4 _ _ (t3 _ _ (t2 _ _ xs1)))) hq4
    have nl1 : l ≠ q1 := ne_of_none hl2 hq1
    have nl2 : l ≠ q2 := ne_of_none (t3 _ _ hl2) hq2
    have nl3 : l ≠ q3 := ne_of_none (t4 _ _ (t3 _ _ hl2)) hq3
    have nl4 : l ≠ q4 := ne_of_none (t5 _ _ (t4 _ _ (t3 _ _ hl2))) hq4
    have lw : ∀ f ∈ wsOf z, Lo f := fun f hf => lz.split (y := (" " : Str)) (by decide +kernel) (fun p hp => split_len hp) hf
    have wl : (wsOf z).length ≤ 100001 := by
      have e := ws_wt z
      unfold wt at e
      have := lz.2
      omega
    have nsx : sc ≠ x := by
      obtain ⟨dx', d', tp', o', kvs', hx', _⟩ := id hS
      intro e
      rw [e, hx] at hx'
      have q := Option.some.inj hx'
      injection q with _ _ q
      cases q
    have hSy : ∀ H', (∀ b o, b ≠ x → H b = some o → H' b = some o) → SchAt K H' sc zz ts := fun H' ot => sch_but hS hx (fun _ z => nomatch z) (fun _ z => nomatch z) (fun _ _ z => nomatch z) nsx ot
    have hne := ws_ne z
    have hwl : ((wsOf z).map V.str).length = (wsOf z).length := List.length_map ..
    refine ⟨_, rfl, l, _, rfl, SqL.of hl6, ?_⟩
    refine for_it (walk_enum (K := K) (a := l) (xs := (wsOf z).map V.str)) (WyI K H x sc l q1 q2 q3 q4 dx z ts (wsOf z) fin)
      ⟨_, _, _, _, _, _, _, [], [], [], rfl, ot6, hx6, hl6, t6 _ _ (t5 _ _ (t4 _ _ h31)), t6 _ _ (t5 _ _ h42), t6 _ _ h53, h64, .nil, .nil, rfl, hrd, (fun _ z => nomatch z)⟩
      (fun i σ H' _ ⟨_, _, _, _, _, _, _, _, _, _, _, _, _, h, _⟩ => SqL.of h) ?_ ?_
    · rintro i v σ H7 H8 hi ⟨x8, x9, x10, x11, x12, x13, x14, es, ms, as, rfl, ot7, hx7, hl7, h71, h72, h73, h74, dm, da, hen, hrd7, hw7⟩ ⟨tp, xi, xl, rfl, htp, rfl, e1, e2⟩
      cases e1
      have e2 : ((wsOf z).map V.str)[i]? = some xl := e2
      rw [List.getElem?_map] at e2
      obtain ⟨wo, hx2, rfl⟩ := Option.map_eq_some_iff.mp e2
      clear e2
      rw [hwl] at hi
      have lo := lw wo (List.mem_of_getElem? hx2)
      have edr : (wsOf z).drop i = wo :: (wsOf z).drop (i + 1) := by
        rw [List.drop_eq_getElem_cons hi]
        rw [List.getElem?_eq_getElem hi] at hx2
        cases hx2
        rfl
      rw [edr] at hrd7
      unfold readW at hrd7
      rw [hen] at hrd7
      have s8 := same_upd (o := .tup [V.int (i : Nat), V.str wo]) htp
      refine ⟨tp, _, rfl, SqT.of upd_same, rfl, _, _, rfl, _, _, rfl, rfl, ?_⟩
      generalize upd H7 tp _ = H8 at s8 ⊢
      refine ⟨_, rfl, wo, rfl, lo, fun H9 a9 s9 ha9 => ⟨a9, _, rfl, SqT.of ha9, rfl, _, _, rfl, _, _, rfl, rfl, ?_⟩⟩
      have s79 := s8.trans s9
      have rz : ∀ {H' : Hp}, (∀ b o, b ≠ x → H b = some o → H' b = some o) → fin = .error i → ∀ d H2, H' d = none → Same H' H2 → H2 d = some (.xd (([("at" : Str)]).zip [V.int ((i : Nat) : Int)]).reverse) → E (.ref (He.ga K "BadWay")) (some d) H2 := fun ot hc d H2 _ s2 h2 =>
        kE i (by rw [hrd, hc]) H2 d (fun b o nb e => s2 _ _ (ot _ _ nb e)) h2
      dsimp only
      refine seq_mid (fun σ' H' => ∃ (tv : V) (y13 : Option V) (ms' : List V), σ' = [some (.ref x), some (.ref sc), some (.str z), some (.ref l), some (.ref q1), some (.ref q2), some (.ref q3), some (.ref q4), some (.int (i : Nat)), some (.str wo), some (.str (wName wo)), some (.str (wRest wo)), some tv, y13, x14] ∧
        (∀ b o, b ≠ x → H b = some o → H' b = some o) ∧ H' x = some (.ins (He.ga K "Way") dx [(("schema" : Str), .ref sc)]) ∧ H' l = some (.lst ((wsOf z).map V.str)) ∧
        H' q1 = some (.lst (es.map fun e => .str e.nm)) ∧ H' q2 = some (.lst ms') ∧ H' q3 = some (.lst (es.map fun e => .str e.tb)) ∧ H' q4 = some (.lst as) ∧ DpAll K (tups H') as (es.map dFl) ∧
        ((tv = .non ∧ stepW ts es wo = none) ∨ ∃ t' bk lk, tv = .str t' ∧ isW t' = true ∧ stepW ts es wo = (readF ts t' (wRest wo)).map (fun f => (⟨wName wo, t', bk, lk, f⟩ : Stp)) ∧ DpAll K (tups H') ms' ((es ++ [(⟨wName wo, t', bk, lk, []⟩ : Stp)]).tail.map dMv))) (fun N kN => ?_) ?_
      · refine ⟨_, rfl, rfl, _, rfl, ?_⟩
        have ot9 : ∀ b o, b ≠ x → H b = some o → H9 b = some o := fun b o nb e => s79 _ _ (ot7 _ _ nb e)
        have da9 := DpAll.same (tups_same s79) _ _ da
        have dm9 := DpAll.same (tups_same s79) _ _ dm
        refine ite2 (fun h1 => ?_) (fun h1 => ?_)
        · have h1 : V.int ((i : Nat) : Int) = V.int 0 := of_decide_eq_true h1
          injection h1 with h1
          have i0 : i = 0 := by omega
          have es0 : es = [] := List.length_eq_zero_iff.mp (by rw [hen, i0])
          have ms0 : ms = [] := by
            have := DpAll.len dm
            rw [es0] at this
            exact List.length_eq_zero_iff.mp this
          obtain ⟨dx', d', tp', o', kvs', hx', _, _, htp'⟩ := hSy H9 ot9
          refine ⟨_, rfl, _, rfl, sc, _, dx', _, _, rfl, hx', S.cl, S.tables, rfl, tp', _, rfl, .inr (SqT.of htp'), rfl, ?_, _, rfl, ?_⟩
          · have e : (ts.map fun u => V.str u.1) = (ts.map Prod.fst).map V.str := by rw [List.map_map] <;> rfl
            rw [e]
            exact flat_strs _
          have e : inV (V.str (wName wo)) (ts.map fun u => V.str u.1) = decide (wName wo ∈ ts.map Prod.fst) := by
            have e : (ts.map fun u => V.str u.1) = (ts.map Prod.fst).map V.str := by rw [List.map_map] <;> rfl
            rw [e, inV_str]
          show if inV (V.str (wName wo)) (ts.map fun u => V.str u.1) = true then _ else _
          rw [e]
          by_cases hin : wName wo ∈ ts.map Prod.fst
          · rw [decide_eq_true hin]
            refine iteT ?_
            refine ⟨_, rfl, kN _ _ ⟨_, _, ms, rfl, ot9, s79 _ _ hx7, s79 _ _ hl7, s79 _ _ h71, s79 _ _ h72, s79 _ _ h73, s79 _ _ h74, da9, .inr ⟨wName wo, false, ("" : Str), rfl, ok.names _ hin, ?_, ?_⟩⟩⟩
            · unfold stepW
              rw [es0]
              show (if wName wo ∈ _ then _ else _) = _
              rw [if_pos hin]
            · rw [es0, ms0]
              exact .nil
          · rw [decide_eq_false hin]
            refine iteF ?_
            refine kN _ _ ⟨_, _, ms, rfl, ot9, s79 _ _ hx7, s79 _ _ hl7, s79 _ _ h71, s79 _ _ h72, s79 _ _ h73, s79 _ _ h74, da9, .inl ⟨rfl, ?_⟩⟩
            unfold stepW
            rw [es0]
            show (if wName wo ∈ _ then _ else _) = _
            rw [if_neg hin]
        · have i0 : i ≠ 0 := fun e => h1 (decide_eq_true (by rw [e]; rfl))
          have msz : ms.length < sizeLine := by
            have := DpAll.len dm
            rw [List.length_map, List.length_tail] at this
            rw [sizeLine_eq]
            omega
          obtain ⟨es1, la, rfl⟩ : ∃ es1 la, es = es1 ++ [la] := by
            rcases List.eq_nil_or_concat es with e | ⟨es1, la, e⟩
            · rw [e] at hen
              exact absurd hen.symm i0
            · exact ⟨es1, la, by rw [e, List.concat_eq_append]⟩
          have hla : (es1 ++ [la]).getLast? = some la := by rw [List.getLast?_append]; rfl
          have hlt : isW la.tb = true := hw7 la (List.mem_append_right _ (List.mem_cons_self ..))
          have hS9 := hSy H9 ot9
          have hq9 : H9 q3 = some (.lst ((es1 ++ [la]).map fun e => V.str e.tb)) := s79 _ _ h73
          have hat : atI ((es1 ++ [la]).map fun e => V.str e.tb) (-1) = some (V.str la.tb) := by
            rw [List.map_append]
            exact atI_last _ _
          refine ⟨_, rfl, _, rfl, _, rfl, q3, _, _, _, rfl, rfl, SqL.of hq9, hat, _, rfl, sc, zz, la.tb, wName wo, ts, rfl, hS9, ok, Lo.word hlt, lo.head (by decide +kernel), fun hm H10 s10 => ?_, fun m hm H10 a s10 ha => ?_⟩
          · have h2' : H10 q2 = some (.lst ms) := s10 _ _ (s79 _ _ h72)
            refine ⟨_, rfl, .inl ⟨rfl, _, SqL.of h2'⟩, _, rfl, q2, ms, _, rfl, rfl, h2', msz, ?_⟩
            refine ⟨_, rfl, rfl, _, rfl, iteT ?_⟩
            have s710 := s79.trans s10
            refine kN _ _ ⟨_, _, _, rfl, fun b o nb e => ?_, ?_, ?_, ?_, upd_same, ?_, ?_, DpAll.same ((tups_same s710).trans (tups_lst h2')) _ _ da, .inl ⟨rfl, ?_⟩⟩
            · rw [upd_ne (f2 _ _ nb e)]
              exact s710 _ _ (ot7 _ _ nb e)
            · rw [upd_ne nx2]; exact s710 _ _ hx7
            · rw [upd_ne nl2]; exact s710 _ _ hl7
            · rw [upd_ne n12]; exact s710 _ _ h71
            · rw [upd_ne n23.symm]; exact s710 _ _ h73
            · rw [upd_ne n24.symm]; exact s710 _ _ h74
            · unfold stepW
              rw [hla]
              show (readM ts la.tb (wName wo)).bind _ = _
              rw [hm]
              rfl
          · have h2' : H10 q2 = some (.lst ms) := s10 _ _ (s79 _ _ h72)
            have na : a ≠ q2 := ne_of ha h2' fun z => nomatch z
            refine ⟨_, rfl, .inl ⟨rfl, _, SqL.of h2'⟩, _, rfl, q2, ms, _, rfl, rfl, h2', msz, ?_⟩
            refine ⟨_, rfl, rfl, _, rfl, iteF ?_⟩
            have s710 := s79.trans s10
            have st : Same (tups H7) (tups (upd H10 q2 (.lst (ms ++ [V.ref a])))) := (tups_same s710).trans (tups_lst h2')
            have ha2 : upd H10 q2 (.lst (ms ++ [V.ref a])) a = some (.tup [.bl m.1, .str m.2.1, .str m.2.2]) := by rw [upd_ne na]; exact ha
            refine ⟨_, rfl, a, _, _, _, rfl, rfl, SqT.of ha2, atI_nat (j := 2) rfl, ?_⟩
            refine kN _ _ ⟨_, _, _, rfl, fun b o nb e => ?_, ?_, ?_, ?_, upd_same, ?_, ?_, DpAll.same st _ _ da, .inr ⟨m.2.2, m.1, m.2.1, rfl, ?_, ?_, ?_⟩⟩
            · rw [upd_ne (f2 _ _ nb e)]
              exact s710 _ _ (ot7 _ _ nb e)
            · rw [upd_ne nx2]; exact s710 _ _ hx7
            · rw [upd_ne nl2]; exact s710 _ _ hl7
            · rw [upd_ne n12]; exact s710 _ _ h71
            · rw [upd_ne n23.symm]; exact s710 _ _ h73
            · rw [upd_ne n24.symm]; exact s710 _ _ h74
            · exact readM_word ok hm
            · unfold stepW
              rw [hla]
              show (readM ts la.tb (wName wo)).bind _ = _
              rw [hm]
              rfl
            · rw [tail_app, List.map_append]
              exact DpAll.app (DpAll.same st _ _ dm) (.cons (.tup (SqT.of (tups_at ha2)) (.cons (.bl _) (.cons (.str _) (.cons (.str _) .nil)))) .nil)
      · rintro σ H10 ⟨tv, y13, ms', rfl, ot10, hx10, hl10, h101, h102, h103, h104, da10, hc⟩
        rcases hc with ⟨rfl, hst⟩ | ⟨t', bk, lk, rfl, hwt, hst, dm10⟩
        · rw [hst] at hrd7
          refine ⟨_, rfl, rfl, _, rfl, iteT ?_⟩
          refine ⟨_, rfl, rfl, _, rfl, iteT (iteT ?_)⟩
          exact ⟨_, rfl, rx_ (fs := [("at" : Str)]) rfl (by simp) (by decide) (rz ot10 hrd7.symm)⟩
        · refine ⟨_, rfl, rfl, _, rfl, iteF ?_⟩
          refine ⟨_, rfl, _, rfl, _, rfl, sc, zz, t', wRest wo, ts, rfl, hSy _ ot10, ok, Lo.word hwt, lo.cut _ _, fun hn H11 s11 => ?_, fun fs hfs H11 a s11 ha => ?_⟩
          · rw [hst, hn] at hrd7
            refine ⟨_, rfl, rfl, _, rfl, iteT (iteT ?_)⟩
            exact ⟨_, rfl, rx_ (fs := [("at" : Str)]) rfl (by simp) (by decide) (rz (fun b o nb e => s11 _ _ (ot10 _ _ nb e)) hrd7.symm)⟩
          · rw [hst, hfs] at hrd7
            refine ⟨_, rfl, rfl, _, rfl, iteF ?_⟩
            refine ⟨_, rfl, _, _, rfl, rfl, _, rfl, ?_⟩
            refine ite2 (fun h1 => ?_) (fun h1 => ?_)
            · have h1 : (12 : Int) < (i : Nat) := of_decide_eq_true h1
              have hrd7 : (if 12 < i then (Except.error i : Except Nat (List Stp)) else _) = fin := hrd7
              rw [if_pos (by omega)] at hrd7
              exact ⟨_, rfl, rx_ (fs := [("at" : Str)]) rfl (by simp) (by decide) (rz (fun b o nb e => s11 _ _ (ot10 _ _ nb e)) hrd7.symm)⟩
            · have h1 : ¬ (12 : Int) < (i : Nat) := fun z => h1 (decide_eq_true z)
              have hrd7 : (if 12 < i then (Except.error i : Except Nat (List Stp)) else readW ts ((wsOf z).drop (i + 1)) (es ++ [(⟨wName wo, t', bk, lk, fs⟩ : Stp)])) = fin := hrd7
              rw [if_neg (by omega)] at hrd7
              have hel : (es.map fun e => V.str e.nm).length < sizeLine := by rw [List.length_map, sizeLine_eq]; omega
              have hel3 : (es.map fun e => V.str e.tb).length < sizeLine := by rw [List.length_map, sizeLine_eq]; omega
              have hel4 : as.length < sizeLine := by
                have := DpAll.len da
                rw [List.length_map] at this
                rw [sizeLine_eq]
                omega
              have g1 := s11 _ _ h101
              refine ⟨_, rfl, .inl ⟨rfl, _, SqL.of g1⟩, _, rfl, q1, _, _, rfl, rfl, g1, hel, ?_⟩
              generalize eG1 : upd H11 q1 _ = G1
              have o1 : ∀ b o, b ≠ q1 → H11 b = some o → G1 b = some o := fun b o nb e => by rw [← eG1, upd_ne nb]; exact e
              have g1' : G1 q1 = some (.lst ((es.map fun e => V.str e.nm) ++ [V.str (wName wo)])) := by rw [← eG1]; exact upd_same
              have u1 : Same (tups H11) (tups G1) := by rw [← eG1]; exact tups_lst g1
              clear eG1
              have g3 := o1 _ _ n13.symm (s11 _ _ h103)
              refine ⟨_, rfl, .inl ⟨rfl, _, SqL.of g3⟩, _, rfl, q3, _, _, rfl, rfl, g3, hel3, ?_⟩
              generalize eG2 : upd G1 q3 _ = G2
              have o2 : ∀ b o, b ≠ q3 → G1 b = some o → G2 b = some o := fun b o nb e => by rw [← eG2, upd_ne nb]; exact e
              have g3' : G2 q3 = some (.lst ((es.map fun e => V.str e.tb) ++ [V.str t'])) := by rw [← eG2]; exact upd_same
              have u2 : Same (tups G1) (tups G2) := by rw [← eG2]; exact tups_lst g3
              clear eG2
              have g4 := o2 _ _ n34.symm (o1 _ _ n14.symm (s11 _ _ h104))
              refine ⟨_, rfl, .inl ⟨rfl, _, SqL.of g4⟩, _, rfl, q4, _, _, rfl, rfl, g4, hel4, ?_⟩
              generalize eG3 : upd G2 q4 _ = G3
              have o3 : ∀ b o, b ≠ q4 → G2 b = some o → G3 b = some o := fun b o nb e => by rw [← eG3, upd_ne nb]; exact e
              have g4' : G3 q4 = some (.lst (as ++ [V.ref a])) := by rw [← eG3]; exact upd_same
              have u3 : Same (tups G2) (tups G3) := by rw [← eG3]; exact tups_lst g4
              clear eG3
              have uu : Same (tups H10) (tups G3) := (tups_same s11).trans (u1.trans (u2.trans u3))
              have ha3 : tups G3 a = some (.tup (fs.map V.str)) := u3 _ _ (u2 _ _ (u1 _ _ (tups_at ha)))
              refine ⟨_, _, _, _, _, _, _, es ++ [⟨wName wo, t', bk, lk, fs⟩], ms', as ++ [V.ref a], rfl, fun b o nb e => o3 _ _ (f4 _ _ nb e) (o2 _ _ (f3 _ _ nb e) (o1 _ _ (f1 _ _ nb e) (s11 _ _ (ot10 _ _ nb e)))),
                o3 _ _ nx4 (o2 _ _ nx3 (o1 _ _ nx1 (s11 _ _ hx10))), o3 _ _ nl4 (o2 _ _ nl3 (o1 _ _ nl1 (s11 _ _ hl10))), ?_, o3 _ _ n24 (o2 _ _ n23 (o1 _ _ n12.symm (s11 _ _ h102))), ?_, g4', ?_, ?_, by rw [List.length_append, hen]; rfl, hrd7, ?_⟩
              · rw [List.map_append]
                exact o3 _ _ n14 (o2 _ _ n13 g1')
              · rw [List.map_append]
                exact o3 _ _ n34 g3'
              · have e : (es ++ [(⟨wName wo, t', bk, lk, fs⟩ : Stp)]).tail.map dMv = (es ++ [(⟨wName wo, t', bk, lk, []⟩ : Stp)]).tail.map dMv := by
                  cases es with
                  | nil => rfl
                  | cons e r => show (r ++ [_]).map dMv = (r ++ [_]).map dMv; rw [List.map_append, List.map_append]; rfl
                rw [e]
                exact DpAll.same uu _ _ dm10
              · rw [List.map_append]
                refine DpAll.app (DpAll.same uu _ _ da10) (.cons (.tup (SqT.of ha3) ?_) .nil)
                exact DpAll.strs _
              · intro e he
                rcases List.mem_append.mp he with z | z
                · exact hw7 e z
                · rw [List.mem_singleton.mp z]
                  exact hwt
    · rintro σ H7 ⟨x8, x9, x10, x11, x12, x13, x14, es, ms, as, rfl, ot7, hx7, hl7, h71, h72, h73, h74, dm, da, hen, hrd7, hw7⟩
      rw [hwl] at hen
      have hpos : 0 < (wsOf z).length := List.length_pos_iff.mpr hne
      rw [hwl, List.drop_length] at hrd7
      unfold readW at hrd7
      obtain ⟨e0, er, ees⟩ : ∃ e0 er, es = e0 :: er := by
        cases es with
        | nil => rw [← hen] at hpos; exact absurd hpos (by simp)
        | cons e0 er => exact ⟨e0, er, rfl⟩
      have hst0 : stTb es = e0.tb := by rw [ees]; rfl
      obtain ⟨ei, el, eel⟩ : ∃ ei el, es = ei ++ [el] := by
        rcases List.eq_nil_or_concat es with e | ⟨ei, el, e⟩
        · rw [e] at ees; cases ees
        · exact ⟨ei, el, by rw [e, List.concat_eq_append]⟩
      have hen0 : enTb es = el.tb := by rw [eel]; exact enTb_app _ _
      have at0 : atI (es.map fun e => V.str e.tb) 0 = some (V.str (stTb es)) := by rw [hst0, ees]; exact atI_nat (j := 0) rfl
      have at1 : atI (es.map fun e => V.str e.tb) (-1) = some (V.str (enTb es)) := by
        rw [hen0, eel, List.map_append]
        exact atI_last _ _
      have H7x := hx7
      have nq1 : q1 ≠ x := nx1.symm
      refine ⟨_, rfl, q3, _, _, _, rfl, rfl, SqL.of h73, at0, ?_⟩
      refine ⟨_, rfl, x, _, dx, _, rfl, H7x, W.cl, W.start, by show 1 < 1000; decide, ?_⟩
      generalize eG1 : upd H7 x _ = G1
      have G1o : ∀ b o, b ≠ x → H7 b = some o → G1 b = some o := fun b o nb e => by rw [← eG1, upd_ne nb]; exact e
      have G1x : G1 x = some (.ins (He.ga K "Way") dx [(("schema" : Str), V.ref sc), (("start" : Str), V.str (stTb es))]) := by rw [← eG1]; exact upd_same
      clear eG1
      have k3 := G1o _ _ nx3.symm h73
      refine ⟨_, rfl, _, rfl, q3, _, _, _, rfl, rfl, SqL.of k3, at1, ?_⟩
      refine ⟨_, rfl, x, _, dx, _, rfl, G1x, W.cl, W.end_, by show 2 < 1000; decide, ?_⟩
      generalize eG2 : upd G1 x _ = G2
      have G2o : ∀ b o, b ≠ x → G1 b = some o → G2 b = some o := fun b o nb e => by rw [← eG2, upd_ne nb]; exact e
      have G2x : G2 x = some (.ins (He.ga K "Way") dx [(("schema" : Str), V.ref sc), (("start" : Str), V.str (stTb es)), (("end" : Str), V.str (enTb es))]) := by rw [← eG2]; exact upd_same
      clear eG2
      have k3 := G2o _ _ nx3.symm k3
      refine ⟨_, rfl, q3, _, rfl, .inl ⟨SqL.of k3, fun a1 ha1 => ?_⟩⟩
      generalize eJ1 : upd G2 a1 _ = J1
      have J1s : Same G2 J1 := by rw [← eJ1]; exact same_upd ha1
      have J1a : J1 a1 = some (.tup (es.map fun e => V.str e.tb)) := by rw [← eJ1]; exact upd_same
      clear eJ1
      have n1x : a1 ≠ x := (ne_of_none G2x ha1).symm
      have J1x := J1s _ _ G2x
      refine ⟨_, rfl, x, _, dx, _, rfl, J1x, W.cl, W.tables, by show 3 < 1000; decide, ?_⟩
      generalize eG3 : upd J1 x _ = G3
      have G3o : ∀ b o, b ≠ x → J1 b = some o → G3 b = some o := fun b o nb e => by rw [← eG3, upd_ne nb]; exact e
      have G3x : G3 x = some (.ins (He.ga K "Way") dx [(("schema" : Str), V.ref sc), (("start" : Str), V.str (stTb es)), (("end" : Str), V.str (enTb es)), (("tables" : Str), V.ref a1)]) := by rw [← eG3]; exact upd_same
      clear eG3
      have k4 := G3o _ _ nx4.symm (J1s _ _ (G2o _ _ nx4.symm (G1o _ _ nx4.symm h74)))
      refine ⟨_, rfl, q4, _, rfl, .inl ⟨SqL.of k4, fun a2 ha2 => ?_⟩⟩
      generalize eJ2 : upd G3 a2 _ = J2
      have J2s : Same G3 J2 := by rw [← eJ2]; exact same_upd ha2
      have J2a : J2 a2 = some (.tup as) := by rw [← eJ2]; exact upd_same
      clear eJ2
      have n2x : a2 ≠ x := (ne_of_none G3x ha2).symm
      have J2x := J2s _ _ G3x
      refine ⟨_, rfl, x, _, dx, _, rfl, J2x, W.cl, W.asked, by show 4 < 1000; decide, ?_⟩
      generalize eG4 : upd J2 x _ = G4
      have G4o : ∀ b o, b ≠ x → J2 b = some o → G4 b = some o := fun b o nb e => by rw [← eG4, upd_ne nb]; exact e
      have G4x : G4 x = some (.ins (He.ga K "Way") dx [(("schema" : Str), V.ref sc), (("start" : Str), V.str (stTb es)), (("end" : Str), V.str (enTb es)), (("tables" : Str), V.ref a1), (("asked" : Str), V.ref a2)]) := by rw [← eG4]; exact upd_same
      clear eG4
      have k1 := G4o _ _ nq1 (J2s _ _ (G3o _ _ nq1 (J1s _ _ (G2o _ _ nq1 (G1o _ _ nq1 h71)))))
      refine ⟨_, rfl, _, rfl, q1, _, rfl, SqL.of k1, fun p hp => ?_⟩
      have ecut : cutV (es.map fun e => V.str e.nm) (some 1) none = es.tail.map fun e => V.str e.nm := by
        have := cut_from (es.map fun e => V.str e.nm) 1
        rw [show ((1 : Nat) : Int) = 1 from rfl] at this
        rw [this, ees]
        rfl
      rw [ecut]
      generalize eJ0 : upd G4 p _ = J0
      have J0s : Same G4 J0 := by rw [← eJ0]; exact same_upd hp
      have J0a : J0 p = some (.lst (es.tail.map fun e => V.str e.nm)) := by rw [← eJ0]; exact upd_same
      clear eJ0
      refine ⟨p, _, rfl, .inl ⟨SqL.of J0a, fun a3 ha3 => ?_⟩⟩
      generalize eJ3 : upd J0 a3 _ = J3
      have J3s : Same J0 J3 := by rw [← eJ3]; exact same_upd ha3
      have J3a : J3 a3 = some (.tup (es.tail.map fun e => V.str e.nm)) := by rw [← eJ3]; exact upd_same
      clear eJ3
      have n3x : a3 ≠ x := (ne_of_none (J0s _ _ G4x) ha3).symm
      have J3x := J3s _ _ (J0s _ _ G4x)
      refine ⟨_, rfl, x, _, dx, _, rfl, J3x, W.cl, W.steps, by show 5 < 1000; decide, ?_⟩
      generalize eG5 : upd J3 x _ = G5
      have G5o : ∀ b o, b ≠ x → J3 b = some o → G5 b = some o := fun b o nb e => by rw [← eG5, upd_ne nb]; exact e
      have G5x : G5 x = some (.ins (He.ga K "Way") dx [(("schema" : Str), V.ref sc), (("start" : Str), V.str (stTb es)), (("end" : Str), V.str (enTb es)), (("tables" : Str), V.ref a1), (("asked" : Str), V.ref a2), (("steps" : Str), V.ref a3)]) := by rw [← eG5]; exact upd_same
      clear eG5
      have k2 := G5o _ _ nx2.symm (J3s _ _ (J0s _ _ (G4o _ _ nx2.symm (J2s _ _ (G3o _ _ nx2.symm (J1s _ _ (G2o _ _ nx2.symm (G1o _ _ nx2.symm h72))))))))
      refine ⟨_, rfl, q2, _, rfl, .inl ⟨SqL.of k2, fun a4 ha4 => ?_⟩⟩
      generalize eJ4 : upd G5 a4 _ = J4
      have J4s : Same G5 J4 := by rw [← eJ4]; exact same_upd ha4
      have J4a : J4 a4 = some (.tup ms) := by rw [← eJ4]; exact upd_same
      clear eJ4
      have n4x : a4 ≠ x := (ne_of_none G5x ha4).symm
      have J4x := J4s _ _ G5x
      refine ⟨_, rfl, x, _, dx, _, rfl, J4x, W.cl, W.moves, by show 6 < 1000; decide, ?_⟩
      generalize eG6 : upd J4 x _ = G6
      have G6o : ∀ b o, b ≠ x → J4 b = some o → G6 b = some o := fun b o nb e => by rw [← eG6, upd_ne nb]; exact e
      have G6x : G6 x = some (.ins (He.ga K "Way") dx [(("schema" : Str), V.ref sc), (("start" : Str), V.str (stTb es)), (("end" : Str), V.str (enTb es)), (("tables" : Str), V.ref a1), (("asked" : Str), V.ref a2), (("steps" : Str), V.ref a3), (("moves" : Str), V.ref a4)]) := by rw [← eG6]; exact upd_same
      clear eG6
      have oAll : ∀ b o, b ≠ x → H7 b = some o → G6 b = some o := fun b o nb e => G6o _ _ nb (J4s _ _ (G5o _ _ nb (J3s _ _ (J0s _ _ (G4o _ _ nb (J2s _ _ (G3o _ _ nb (J1s _ _ (G2o _ _ nb (G1o _ _ nb e))))))))))
      have tAll : Same (tups H7) (tups G6) := tups_of fun b xs e => oAll _ _ (ne_of e hx7 fun z => nomatch z) e
      have q2a : G6 a2 = some (.tup as) := G6o _ _ n2x (J4s _ _ (G5o _ _ n2x (J3s _ _ (J0s _ _ (G4o _ _ n2x J2a)))))
      have q1a : G6 a1 = some (.tup (es.map fun e => V.str e.tb)) := G6o _ _ n1x (J4s _ _ (G5o _ _ n1x (J3s _ _ (J0s _ _ (G4o _ _ n1x (J2s _ _ (G3o _ _ n1x J1a)))))))
      have q3a : G6 a3 = some (.tup (es.tail.map fun e => V.str e.nm)) := G6o _ _ n3x (J4s _ _ (G5o _ _ n3x J3a))
      have q4a : G6 a4 = some (.tup ms) := G6o _ _ n4x J4a
      refine k es (by rw [hrd, ← hrd7]) _ (fun b o nb e => oAll _ _ nb (ot7 _ _ nb e)) ⟨dx, a1, a2, a3, a4, G6x, q1a, .tup (SqT.of (tups_at q2a)) (DpAll.same tAll _ _ da), q3a, .tup (SqT.of (tups_at q4a)) (DpAll.same tAll _ _ dm)⟩
end
end Ow

/-! ways, the program: written, Way.of, is_straight, __len__, __str__ -/
namespace Ow
open PySem PySem.Spec PyProof.Rows L2 TL
theorem word_bound {e : Stp} (h : e.nm.length ≤ 1000 ∧ e.fl.length ≤ 6 ∧ ∀ f ∈ e.fl, f.length ≤ 8) (r : Bool) : (wordF r e).length ≤ 1062 ∧ (Txt.join ("," : Str) e.fl).length ≤ 60 := by
  have hc : (("," : Str)).length = 1 := by decide +kernel
  have j : ∀ l : List Str, l.length ≤ 6 → (∀ f ∈ l, f.length ≤ 8) → (Txt.join ("," : Str) l).length ≤ 60 := fun l h1 h2 => by
    rw [join_eq]
    have a1 := join_len2 ("," : Str) l
    have a2 := sum_le h2
    rw [hc] at a1
    omega
  refine ⟨?_, j _ h.2.1 h.2.2⟩
  unfold wordF
  rw [len_app]
  split
  · have e0 : (("" : Str)).length = 0 := by decide +kernel
    omega
  · have e1 : (("[" : Str)).length = 1 := by decide +kernel
    have e2 : (("]" : Str)).length = 1 := by decide +kernel
    rw [len_app, len_app, e1, e2]
    have : (Txt.join ("," : Str) (if r = true then e.fl.reverse else e.fl)).length ≤ 60 := by
      split
      · exact j _ (by rw [List.length_reverse]; exact h.2.1) fun f hf => h.2.2 f (List.mem_reverse.mp hf)
      · exact j _ h.2.1 h.2.2
    omega
section
variable {P : Program} {w : World} {K : PySem.W.Frag} {mg : Str → Option Value} {base : Heap}
theorem sc_written : FnScope [("start" : Str), ("steps" : Str), ("asked" : Str), ("names" : Str), ("name" : Str), ("flags" : Str)] [("start" : Str), ("steps" : Str), ("asked" : Str)] (defScope s_written) := ⟨rfl, rfl, rfl, by decide +kernel, rfl, by decide +kernel, by decide +kernel⟩
theorem ok_written (D : TopD K mg "written" s_written) (T : Blt mg) (M : ScC K mg) (Y : WyC mg) : FnAt P w K mg base "written" [("start" : Str), ("steps" : Str), ("asked" : Str)] 1 (spWrit K) := by
  refine fn_at D sc_written (fun _ _ _ _ _ _ us hl => match us, hl with | [_, _, _], _ => rfl) (fun vs H Q E h => ?_) (fun f cdv A outer s H vs Q E hr h => ?_)
  · obtain ⟨a, b, es, s0, rfl, _⟩ := h
    rfl
  · obtain ⟨a, b, es, s0, rfl, ⟨e0, er, rfl, rfl⟩, few, bd, hA, hB, k⟩ := h
    refine ⟨_, (pss_cons (ps_set (i := 3) sc_written.nd rfl (Or.inl rfl) (pe_op op_catT (pe_tup (pa_cons (pv 0) pa_nil)) (pv 1)))
      (pss_one (ps_ret (pe_lc (own := [(("name" : Str), 4), (("flags" : Str), 5)]) (by rfl) sc_written.nd (RZ.pi_zipA (by rfl) Y.zip (pa_cons (pv 3) (pa_cons (pv 2) pa_nil))) (blkOk_by (own := [(("name" : Str), 4), (("flags" : Str), 5)]) (N := [("start" : Str), ("steps" : Str), ("asked" : Str), ("names" : Str), ("name" : Str), ("flags" : Str)]) (sc := defScope s_written) (by decide +kernel)) (fun _ _ _ _ _ => pg_tupK (K := K) (n := 2) rfl (pgs_cons (pg_name (i := 4) sc_written.nd rfl (Or.inl rfl)) (pgs_cons (pg_name (i := 5) sc_written.nd rfl (Or.inl rfl)) pgs_nil))) (fun _ _ _ _ _ => pts_nil) (fun _ _ _ _ _ => (pe_op op_add_str (pv 4) (pe_ifExp (pt_truthK (K := K) (pv 5) (by intro _; rfl)) (pe_op op_add_str (pe_op op_add_str pe_str (pe_joinK (K := K) pe_str (pv 5))) pe_str) pe_str))))))), ?_⟩
    refine seq_mid (fun σ' H' => ∃ n, σ' = [some (.str e0.nm), some (.ref a), some (.ref b), some (.ref n), none, none] ∧ Same H H' ∧ SqT K H' n ((e0 :: er).map fun e => V.str e.nm)) (fun N kN => ?_) ?_
    · refine ⟨_, rfl, by show 1 ≤ sizeLine; decide, fun q hq => ?_⟩
      have s1 := same_upd (o := .tup [V.str e0.nm]) hq
      have hl : (er.map fun e => V.str e.nm).length ≤ 12 := by
        rw [List.length_map]
        have : (e0 :: er).length = er.length + 1 := rfl
        omega
      refine ⟨_, rfl, q, a, _, _, rfl, rfl, SqT.of upd_same, Same.sqT s1 hA, by simp, ?_, fun he => ?_, fun _ p hp => ?_⟩
      · show 1 + (er.map fun e => V.str e.nm).length ≤ sizeLine
        rw [sizeLine_eq]
        omega
      · refine kN _ _ ⟨q, rfl, s1, ?_⟩
        have he : er.map (fun e => V.str e.nm) = [] := he
        rw [List.map_cons, he]
        exact SqT.of upd_same
      · exact kN _ _ ⟨p, rfl, s1.trans (same_upd hp), SqT.of upd_same⟩
    · rintro σ H1 ⟨n, rfl, s1, hn⟩
      have hB1 : Dp K (tups H1) (.ref b) (.tuple ((e0 :: er).map dFl)) := Dp.same (tups_same s1) _ _ hB
      obtain ⟨b', fs, eb, hSb, dpb⟩ := Dp.tup_inv hB1
      cases eb
      have hSb1 : SqT K H1 b fs := Same.sqT (tups_in H1) hSb
      have hfl := DpAll.len dpb
      rw [List.length_map] at hfl
      refine ⟨_, rfl, _, rfl, n, b, _, _, rfl, .inr ⟨hn, hSb1, fun L hL => ?_⟩⟩
      refine lc_it (walk_zipT (K := K) (a := n) (b := b) (xs := (e0 :: er).map fun e => V.str e.nm) (ys := fs) (n := (e0 :: er).length) (by rw [List.length_map]; omega))
        (fun i H' => H' L = some (.lst ((((e0 :: er).take i).map (wordF false)).map V.str)) ∧ Same H1 H') ⟨upd_same, same_upd hL⟩ (fun i H' _ ⟨_, s'⟩ => ⟨Same.sqT s' hn, Same.sqT s' hSb1⟩) ?_ ?_
      · rintro i v H2 H3 hi ⟨hL2, s2⟩ ⟨tp, xa, xb, rfl, htp, rfl, e1, e2⟩
        have e1 : ((e0 :: er).map fun e => V.str e.nm)[i]? = some xa := e1
        have e2 : fs[i]? = some xb := e2
        rw [List.getElem?_map] at e1
        obtain ⟨e, he, rfl⟩ := Option.map_eq_some_iff.mp e1
        obtain ⟨e', hd1, hd2⟩ := dp_at dpb e2
        rw [he] at hd1
        cases hd1
        obtain ⟨f', gs, ef, hSf, dpf⟩ := Dp.tup_inv hd2
        cases ef
        have egs := DpAll.strs_inv dpf
        subst egs
        have s3 := s2.trans (same_upd (o := .tup [V.str e.nm, V.ref f']) htp)
        have hb := bd e (List.mem_of_getElem? he)
        obtain ⟨w1, w2⟩ := word_bound hb false
        refine ⟨tp, _, rfl, SqT.of upd_same, rfl, _, _, rfl, _, _, rfl, rfl, rfl, yes_ ?_⟩
        have hSf3 : SqT K (upd H2 tp (.tup [V.str e.nm, V.ref f'])) f' (e.fl.map V.str) := Same.sqT ((tups_in H1).trans s3) hSf
        refine ⟨_, rfl, _, rfl, _, .inr (.inl ⟨_, hSf3, rfl⟩), ?_⟩
        have es0 : (("" : Str)).length = 0 := by decide +kernel
        have es1 : (("[" : Str)).length = 1 := by decide +kernel
        have es2 : (("]" : Str)).length = 1 := by decide +kernel
        have nL : L ≠ tp := ne_of_none hL2 htp
        have hL3 : upd H2 tp (.tup [V.str e.nm, V.ref f']) L = some (.lst ((((e0 :: er).take i).map (wordF false)).map V.str)) := by rw [upd_ne nL]; exact hL2
        have hsz : ((((e0 :: er).take i).map (wordF false)).map V.str).length < sizeLine := by
          rw [List.length_map, List.length_map, List.length_take, sizeLine_eq]
          omega
        have fin : upd (upd H2 tp (.tup [V.str e.nm, V.ref f'])) L (.lst (((((e0 :: er).take i).map (wordF false)).map V.str) ++ [V.str (wordF false e)])) L = some (.lst ((((e0 :: er).take (i + 1)).map (wordF false)).map V.str)) ∧ Same H1 (upd (upd H2 tp (.tup [V.str e.nm, V.ref f'])) L (.lst (((((e0 :: er).take i).map (wordF false)).map V.str) ++ [V.str (wordF false e)]))) := by
          refine ⟨?_, fun b' o' q => ?_⟩
          · rw [upd_same, List.take_add_one, he, List.map_append, List.map_append]
            rfl
          · rw [upd_ne (ne_of_none q hL)]
            exact s3 _ _ q
        by_cases hf : e.fl = []
        · have ew : wordF false e = e.nm ++ ("" : Str) := by unfold wordF; rw [if_pos hf]
          rw [hf]
          refine iteF ?_
          refine ⟨_, _, rfl, rfl, by rw [es0, sizeLine_eq]; omega, _, hL3, hsz, ?_⟩
          rw [ew] at fin
          exact fin
        · have ew : wordF false e = e.nm ++ (("[" : Str) ++ Txt.join ("," : Str) e.fl ++ ("]" : Str)) := by unfold wordF; rw [if_neg hf]; rfl
          have et : (!(e.fl.map V.str).isEmpty) = true := by
            cases e5 : e.fl with
            | nil => exact absurd e5 hf
            | cons _ _ => rfl
          show if (!(e.fl.map V.str).isEmpty) = true then _ else _
          rw [et]
          refine iteT ?_
          have hsum : (e.fl.map (·.length)).sum + e.fl.length * (("," : Str)).length ≤ 16777216 := by
            have := sum_le hb.2.2
            have hc : (("," : Str)).length = 1 := by decide +kernel
            rw [hc]
            omega
          refine ⟨⟨_, rfl⟩, _, rfl, _, f', e.fl, rfl, rfl, .inr hSf3, hsum, _, _, rfl, rfl, by rw [es1, sizeLine_eq]; omega, _, _, rfl, rfl, by rw [len_app, es1, es2, sizeLine_eq]; omega, _, _, rfl, rfl, by rw [len_app, len_app, es1, es2, sizeLine_eq]; omega, _, hL3, hsz, ?_⟩
          rw [ew] at fin
          exact fin
      · rintro H2 ⟨hL2, s2⟩
        rw [List.take_length] at hL2
        exact k _ L (s1.trans s2) hL2
theorem sc_Way_is_straight : FnScope [("self" : Str)] [("self" : Str)] (defScope s_Way_is_straight) := ⟨rfl, rfl, rfl, by decide +kernel, rfl, by decide +kernel, by decide +kernel⟩
theorem ok_strt (D : PrD K "Way" "is_straight" "Way.is_straight" s_Way_is_straight) (T : Blt mg) (M : ScC K mg) (W : WyS K mg) (Y : WyC mg) : PrAt P w K mg base "Way" "is_straight" [("self" : Str)] 1 (spStr8 K) := by
  refine pr_at D sc_Way_is_straight (fun _ _ _ _ _ _ us hl => match us, hl with | [_], _ => rfl) (fun vs H Q E h => ?_) (fun f cdv A outer s H vs Q E hr h => ?_)
  · obtain ⟨x, s, es, rfl, _⟩ := h
    rfl
  · obtain ⟨x, s, es, rfl, ⟨dx, a1, a2, a3, a4, h1, h2, h3, h4, h5⟩, few, k⟩ := h
    refine ⟨_, (pss_one (ps_ret (pe_cmpR op_eq (pe_numS rfl (by rfl) T.len (by rfl) Y.set (pe_fld (pv 0) rfl)) (pe_callB call_len_seq (by rfl) T.len PySem.boot_len (pa_cons (pe_fld (pv 0) rfl) pa_nil)) (nomark _)))), ?_⟩
    have e : (es.map fun e => V.str e.tb) = (es.map Stp.tb).map V.str := by rw [List.map_map] <;> rfl
    rw [e] at h2
    refine ⟨_, rfl, x, _, dx, _, _, rfl, h1, W.cl, W.tables, rfl, a1, es.map Stp.tb, rfl, SqT.of h2, by rw [List.length_map]; omega, _, rfl, x, _, dx, _, _, rfl, h1, W.cl, W.tables, rfl, a1, _, rfl, .inr (SqT.of h2), rfl, ?_⟩
    rw [List.length_map, List.length_map]
    exact k
theorem sc_Way___len__ : FnScope [("self" : Str)] [("self" : Str)] (defScope s_Way___len__) := ⟨rfl, rfl, rfl, by decide +kernel, rfl, by decide +kernel, by decide +kernel⟩
theorem ok_wlen (D : MtD K "Way" "__len__" "Way.__len__" s_Way___len__) (T : Blt mg) (M : ScC K mg) (W : WyS K mg) : MtAt P w K mg base "Way" "__len__" [("self" : Str)] 1 (spWlen K) := by
  refine mt_at D sc_Way___len__ (fun _ _ _ _ _ _ us hl => match us, hl with | [_], _ => rfl) (fun vs H Q E h => ?_) (fun f cdv A outer s H vs Q E hr h => ?_)
  · obtain ⟨x, s, es, rfl, _⟩ := h
    rfl
  · obtain ⟨x, s, es, rfl, ⟨dx, a1, a2, a3, a4, h1, h2, h3, h4, h5⟩, k⟩ := h
    refine ⟨_, (pss_one (ps_ret (pe_callB call_len_seq (by rfl) T.len PySem.boot_len (pa_cons (pe_fld (pv 0) rfl) pa_nil)))), ?_⟩
    refine ⟨_, rfl, x, _, dx, _, _, rfl, h1, W.cl, W.steps, rfl, a3, _, rfl, .inr (SqT.of h4), ?_⟩
    rw [List.length_map]
    exact k
theorem sc_Way___str__ : FnScope [("self" : Str)] [("self" : Str)] (defScope s_Way___str__) := ⟨rfl, rfl, rfl, by decide +kernel, rfl, by decide +kernel, by decide +kernel⟩
theorem ok_wstr (D : MtD K "Way" "__str__" "Way.__str__" s_Way___str__) (T : Blt mg) (M : ScC K mg) (W : WyS K mg) (F_writ : FnAt P w K mg base "written" [("start" : Str), ("steps" : Str), ("asked" : Str)] 1 (spWrit K)) : MtAt P w K mg base "Way" "__str__" [("self" : Str)] 2 (spWstr K) := by
  refine mt_at D sc_Way___str__ (fun _ _ _ _ _ _ us hl => match us, hl with | [_], _ => rfl) (fun vs H Q E h => ?_) (fun f cdv A outer s H vs Q E hr h => ?_)
  · obtain ⟨x, s, es, rfl, _⟩ := h
    rfl
  · obtain ⟨x, s, es, rfl, ⟨dx, a1, a2, a3, a4, h1, h2, h3, h4, h5⟩, ⟨e0, er, rfl, he0⟩, few, bd, k⟩ := h
    refine ⟨_, (pss_one (ps_ret (pe_join pe_str (pe_fn F_writ (hr.mono (by decide)) (by rfl) (pa_cons (pe_fld (pv 0) rfl) (pa_cons (pe_fld (pv 0) rfl) (pa_cons (pe_fld (pv 0) rfl) pa_nil))))))), ?_⟩
    refine ⟨⟨_, rfl⟩, _, rfl, x, _, dx, _, _, rfl, h1, W.cl, W.start, rfl, _, rfl, x, _, dx, _, _, rfl, h1, W.cl, W.steps, rfl, _, rfl, x, _, dx, _, _, rfl, h1, W.cl, W.asked, rfl, a3, a2, e0 :: er, _, rfl, ⟨e0, er, rfl, he0⟩, few, bd, SqT.of h4, h3, fun H2 q s2 hq => ?_⟩
    refine ⟨_, q, _, rfl, rfl, .inl (SqL.of hq), ?_, k _ s2⟩
    have b1 : ∀ z ∈ (e0 :: er).map (wordF false), z.length ≤ 1062 := fun z hz => by
      obtain ⟨e, he, rfl⟩ := List.mem_map.mp hz
      exact (word_bound (bd e he) false).1
    have b2 := sum_le b1
    rw [List.length_map] at b2
    have hc : ((" " : Str)).length = 1 := sp1
    rw [List.length_map, hc]
    omega
theorem sc_Way_of : FnScope [("cls" : Str), ("schema" : Str), ("words" : Str)] [("cls" : Str), ("schema" : Str), ("words" : Str)] (defScope s_Way_of) := ⟨rfl, rfl, rfl, by decide +kernel, rfl, by decide +kernel, by decide +kernel⟩
theorem ok_wof (D : CmD K "Way" "of" "Way.of" s_Way_of) (T : Blt mg) (M : ScC K mg) (W : WyS K mg) (F_way : MtAtX P w K mg base "Way" "__init__" [("self" : Str), ("schema" : Str), ("text" : Str)] 6 (spWay K)) : CmAt P w K mg base (L2.CX P w) "Way" "of" 8 (spStar 2 (spWof K)) := by
  refine cm_star (ps := [("cls" : Str), ("schema" : Str)]) (pv := ("words" : Str)) D sc_Way_of StX.cxUp (fun _ _ _ _ _ _ us rest hl => match us, rest, hl with | [_, _], [], _ => rfl | [_, _], _ :: _, _ => rfl) (fun f cdv A outer s H vs Q E hr h => ?_)
  obtain ⟨sc, a, zz, ts, ws, rfl, hS, ok, ha, hwt, lz, kE, k⟩ := h
  refine ⟨_, (pss_one (ps_ret (pe_mkLX (i := 0) F_way W.mak (passes_call (takes_of rfl rfl rfl rfl) (fun _ _ _ _ h => h)) (hr.mono (by decide)) rfl (Or.inl rfl) (pa_cons (pv 1) (pa_cons (pe_join pe_str (pv 2)) pa_nil))))), ?_⟩
  have hsum : (ws.map (·.length)).sum + ws.length * ((" " : Str)).length ≤ 16777216 := by
    unfold wt at hwt
    rw [sp1]
    omega
  refine ⟨rfl, _, rfl, ⟨_, rfl⟩, _, rfl, _, a, ws, rfl, rfl, .inr (SqT.of ha), hsum, fun x dx hx hdx ne => ?_⟩
  have s1 : Same H (upd (upd H dx (.own x)) x (.ins (He.ga K "Way") dx [])) := fun b o e => by
    rw [upd_ne (ne_of_none e hx), upd_ne (ne_of_none e hdx)]
    exact e
  refine ⟨x, sc, dx, _, zz, ts, rfl, upd_same, hS.same s1, ok, .inl ⟨_, rfl, lz, fun i hi H2 d ot hd => ?_, fun es hes H2 ot hw => ⟨rfl, ?_⟩⟩⟩
  · exact kE i hi H2 d (fun b o e => ot _ _ (ne_of_none e hx) (s1 _ _ e)) hd
  · exact k es hes H2 x (fun b o e => ot _ _ (ne_of_none e hx) (s1 _ _ e)) hw
end
end Ow

/-! the laws' draws -/
namespace Ow
open PySem PySem.Spec L2
theorem pool_mix (z : Int) {i : Nat} (h : i ≤ 1000) : 0 ≤ z % 618970019642690137449562111 + 8191 * (i : Int) + 17 ∧ z % 618970019642690137449562111 + 8191 * (i : Int) + 17 < 2 ^ 100 := by
  have h1 := Int.emod_nonneg z (show (618970019642690137449562111 : Int) ≠ 0 by decide)
  have h2 := Int.emod_lt_of_pos z (show (0 : Int) < 618970019642690137449562111 by decide)
  have : (2 : Int) ^ 100 = 1267650600228229401496703205376 := by decide
  omega
theorem mix1w {b c : Int} (h1 : 0 ≤ b) (h2 : b < 2 ^ 100) (h3 : 0 ≤ c) (h4 : c ≤ 2 ^ 61) : 0 ≤ b + 1299709 * c ∧ (b + 1299709 * c).natAbs < 2 ^ 101 := by
  have : (2 : Int) ^ 100 = 1267650600228229401496703205376 := by decide
  have : (2 : Int) ^ 61 = 2305843009213693952 := by decide
  have : (2 : Nat) ^ 101 = 2535301200456458802993406410752 := by decide
  omega
theorem mix2w {x c : Int} (h1 : 0 ≤ x) (h2 : x < 618970019642690137449562111) (h3 : 0 ≤ c) (h4 : c ≤ 2 ^ 61) : 0 ≤ x + 15485863 * c ∧ (x + 15485863 * c).natAbs < 2 ^ 108 := by
  have : (2 : Int) ^ 61 = 2305843009213693952 := by decide
  have : (2 : Nat) ^ 108 = 324518553658426726783156020576256 := by decide
  omega
theorem abs_nn (z : Int) : 0 ≤ (if z < 0 then -z else z) := by split <;> omega
section
variable {P : Program} {w : World} {K : PySem.W.Frag} {mg : Str → Option Value} {base : Heap}
theorem sc_law_pool : FnScope [("_law_script" : Str), ("_law_at" : Str), ("_law_cell" : Str), ("_law_great" : Str), ("_law_seed" : Str)] [("_law_script" : Str), ("_law_at" : Str)] (defScope s_law_pool) := ⟨rfl, rfl, rfl, by decide +kernel, rfl, by decide +kernel, by decide +kernel⟩
theorem ok_pool (D : TopD K mg "_law_pool" s_law_pool) (T : Blt mg) : FnAt P w K mg base "_law_pool" [("_law_script" : Str), ("_law_at" : Str)] 1 (spPool K) := by
  refine fn_at D sc_law_pool (fun _ _ _ _ _ _ us hl => match us, hl with | [_, _], _ => rfl) (fun vs H Q E h => ?_) (fun f cdv A outer s H vs Q E hr h => ?_)
  · obtain ⟨s, ns, i, rfl, _⟩ := h
    rfl
  · obtain ⟨a, ns, i, rfl, hS, hi, k⟩ := h
    refine ⟨_, (pss_cons (ps_set (i := 2) sc_law_pool.nd rfl (Or.inl rfl) (pe_ifExp (pt_cmpR op_lt (pv 1) (pe_callB call_len_seq (by rfl) T.len PySem.boot_len (pa_cons (pv 0) pa_nil)) (nomark _)) (pe_ix ix_list (pv 0) (pv 1) (fun _ _ => rfl)) pe_int))
      (pss_cons (ps_set (i := 3) sc_law_pool.nd rfl (Or.inl rfl) (pe_ifExp (pt_cmpR op_ge (pe_callB call_abs (by rfl) T.abs (by decide +kernel) (pa_cons (pv 2) pa_nil)) (pe_op op_powW pe_int pe_int) (nomark _)) (pe_callB call_abs (by rfl) T.abs (by decide +kernel) (pa_cons (pv 2) pa_nil)) pe_int))
      (pss_cons (ps_set (i := 4) sc_law_pool.nd rfl (Or.inl rfl) (pe_op op_mod (pe_callTy call_int1 (by rfl) T.int (by decide +kernel) (pa_cons (pv 2) pa_nil)) pe_int))
      (pss_one (ps_ret (pe_lst (pa_cons (pv 3) (pa_cons (pe_op op_add (pe_op op_add (pv 4) (pe_op op_mul pe_int (pv 1))) pe_int) (pa_cons pe_int pa_nil))))))))), ?_⟩
    refine ⟨_, rfl, _, rfl, a, _, rfl, .inl hS, _, _, rfl, rfl, _, rfl, ?_⟩
    refine ite2 (fun h1 => ?_) (fun h1 => ?_)
    · have h1 : (i : Int) < ((ns.map V.int).length : Int) := of_decide_eq_true h1
      have hi2 : i < ns.length := by
        rw [List.length_map] at h1
        omega
      refine ⟨_, rfl, _, rfl, a, _, _, .int ns[i], rfl, rfl, hS, atI_nat (by rw [List.getElem?_map, List.getElem?_eq_getElem hi2]; rfl), ?_⟩
      refine ⟨_, rfl, _, rfl, _, _, rfl, rfl, powW (n := 4) (by decide) (by decide) (by decide) (by decide), _, _, rfl, rfl, _, rfl, ?_⟩
      refine ite2 (fun h2 => ?_) (fun h2 => ?_)
      · refine ⟨_, rfl, _, rfl, ?_⟩
        refine ⟨_, rfl, .inl ⟨_, rfl, _, _, rfl, rfl, (by show (0 : Int) < 618970019642690137449562111; decide), ?_⟩⟩
        refine ⟨_, rfl, _, rfl, _, rfl, _, _, rfl, rfl, .inl ⟨by decide, by decide⟩, _, _, rfl, rfl, _, _, rfl, rfl, ?_⟩
        refine ⟨by show 3 ≤ sizeLine; decide, fun p hp => k _ p hp (fun b o e => by rw [upd_ne (ne_of_none e hp)]; exact e) ⟨_, _, _, upd_same, ?_, (pool_mix _ hi).1, (pool_mix _ hi).2, Int.le_refl _, Int.le_refl _⟩⟩
        exact abs_nn _
      · skip
        refine ⟨_, rfl, .inl ⟨_, rfl, _, _, rfl, rfl, (by show (0 : Int) < 618970019642690137449562111; decide), ?_⟩⟩
        refine ⟨_, rfl, _, rfl, _, rfl, _, _, rfl, rfl, .inl ⟨by decide, by decide⟩, _, _, rfl, rfl, _, _, rfl, rfl, ?_⟩
        refine ⟨by show 3 ≤ sizeLine; decide, fun p hp => k _ p hp (fun b o e => by rw [upd_ne (ne_of_none e hp)]; exact e) ⟨_, _, _, upd_same, ?_, (pool_mix _ hi).1, (pool_mix _ hi).2, Int.le_refl _, Int.le_refl _⟩⟩
        exact Int.le_refl _
    · skip
      refine ⟨_, rfl, _, rfl, _, _, rfl, rfl, powW (n := 4) (by decide) (by decide) (by decide) (by decide), _, _, rfl, rfl, _, rfl, ?_⟩
      refine ite2 (fun h2 => ?_) (fun h2 => ?_)
      · refine ⟨_, rfl, _, rfl, ?_⟩
        refine ⟨_, rfl, .inl ⟨_, rfl, _, _, rfl, rfl, (by show (0 : Int) < 618970019642690137449562111; decide), ?_⟩⟩
        refine ⟨_, rfl, _, rfl, _, rfl, _, _, rfl, rfl, .inl ⟨by decide, by decide⟩, _, _, rfl, rfl, _, _, rfl, rfl, ?_⟩
        refine ⟨by show 3 ≤ sizeLine; decide, fun p hp => k _ p hp (fun b o e => by rw [upd_ne (ne_of_none e hp)]; exact e) ⟨_, _, _, upd_same, ?_, (pool_mix _ hi).1, (pool_mix _ hi).2, Int.le_refl _, Int.le_refl _⟩⟩
        exact abs_nn _
      · skip
        refine ⟨_, rfl, .inl ⟨_, rfl, _, _, rfl, rfl, (by show (0 : Int) < 618970019642690137449562111; decide), ?_⟩⟩
        refine ⟨_, rfl, _, rfl, _, rfl, _, _, rfl, rfl, .inl ⟨by decide, by decide⟩, _, _, rfl, rfl, _, _, rfl, rfl, ?_⟩
        refine ⟨by show 3 ≤ sizeLine; decide, fun p hp => k _ p hp (fun b o e => by rw [upd_ne (ne_of_none e hp)]; exact e) ⟨_, _, _, upd_same, ?_, (pool_mix _ hi).1, (pool_mix _ hi).2, Int.le_refl _, Int.le_refl _⟩⟩
        exact Int.le_refl _
theorem sc_law_draw : FnScope [("_law_pool_here" : Str), ("_law_many" : Str), ("_law_digit" : Str), ("_law_mixed" : Str)] [("_law_pool_here" : Str), ("_law_many" : Str)] (defScope s_law_draw) := ⟨rfl, rfl, rfl, by decide +kernel, rfl, by decide +kernel, by decide +kernel⟩
theorem ok_draw (D : TopD K mg "_law_draw" s_law_draw) (T : Blt mg) : FnAt P w K mg base "_law_draw" [("_law_pool_here" : Str), ("_law_many" : Str)] 1 spDraw := by
  refine fn_at D sc_law_draw (fun _ _ _ _ _ _ us hl => match us, hl with | [_, _], _ => rfl) (fun vs H Q E h => ?_) (fun f cdv A outer s H vs Q E hr h => ?_)
  · obtain ⟨p, n, m, rfl, _⟩ := h
    rfl
  · obtain ⟨p, n, m, rfl, ⟨a, b, c, hp, ha, hb, hb2, hc, hcn⟩, hn, hm, hm2, k⟩ := h
    refine ⟨_, (pss_cons (ps_if (pt_cmpR op_gt (pe_ix ix_list (pv 0) pe_int (fun _ _ => rfl)) pe_int (nomark _))
      (pss_cons (ps_set (i := 2) sc_law_draw.nd rfl (Or.inl rfl) (pe_op op_mod (pe_callTy call_int1 (by rfl) T.int (by decide +kernel) (pa_cons (pe_ix ix_list (pv 0) pe_int (fun _ _ => rfl)) pa_nil)) (pv 1)))
      (pss_cons (ps_asg (pe_op op_fdivW (pe_ix ix_list (pv 0) pe_int (fun _ _ => rfl)) (pv 1)) (pg_sub (pv 0) pe_int set_list))
      (pss_one (ps_ret (pv 2)))))
      pss_nil)
      (pss_cons (ps_asg (pe_op op_add (pe_ix ix_list (pv 0) pe_int (fun _ _ => rfl)) pe_int) (pg_sub (pv 0) pe_int set_list))
      (pss_cons (ps_set (i := 3) sc_law_draw.nd rfl (Or.inl rfl) (pe_callTy call_int1 (by rfl) T.int (by decide +kernel) (pa_cons (pe_op op_add (pe_op op_powW (pe_op op_add (pe_ix ix_list (pv 0) pe_int (fun _ _ => rfl)) (pe_op op_mul pe_int (pe_ix ix_list (pv 0) pe_int (fun _ _ => rfl)))) pe_int) (pe_ix ix_list (pv 0) pe_int (fun _ _ => rfl))) pa_nil)))
      (pss_cons (ps_set (i := 3) sc_law_draw.nd rfl (Or.inl rfl) (pe_op op_mod (pe_callTy call_int1 (by rfl) T.int (by decide +kernel) (pa_cons (pv 3) pa_nil)) pe_int))
      (pss_cons (ps_set (i := 3) sc_law_draw.nd rfl (Or.inl rfl) (pe_callTy call_int1 (by rfl) T.int (by decide +kernel) (pa_cons (pe_op op_powW (pe_op op_add (pv 3) (pe_op op_mul pe_int (pe_ix ix_list (pv 0) pe_int (fun _ _ => rfl)))) pe_int) pa_nil)))
      (pss_cons (ps_set (i := 3) sc_law_draw.nd rfl (Or.inl rfl) (pe_op op_mod (pe_callTy call_int1 (by rfl) T.int (by decide +kernel) (pa_cons (pv 3) pa_nil)) pe_int))
      (pss_one (ps_ret (pe_op op_mod (pe_callTy call_int1 (by rfl) T.int (by decide +kernel) (pa_cons (pe_op op_fdivW (pv 3) pe_int) pa_nil)) (pv 1)))))))))), ?_⟩
    refine ⟨_, rfl, p, _, _, .int a, rfl, rfl, SqL.of hp, rfl, _, _, rfl, rfl, _, rfl, ?_⟩
    refine ite2 (fun h1 => ?_) (fun h1 => ?_)
    · have h1 : 0 < a := of_decide_eq_true h1
      refine ⟨_, rfl, p, _, _, .int a, rfl, rfl, SqL.of hp, rfl, .inl ⟨a, rfl, _, rfl, a, m, rfl, rfl, hm, ?_⟩⟩
      refine ⟨_, rfl, p, _, _, .int a, rfl, rfl, SqL.of hp, rfl, _, rfl, a, m, rfl, rfl, wide_div hm hm2 (by decide) (by decide), _, rfl, p, _, _, 0, rfl, rfl, hp, rfl, ?_⟩
      refine ⟨_, rfl, k _ _ keep_upd ⟨a / m, b, c, upd_same, div_nonneg_of ha hm, hb, hb2, hc, ?_⟩ (Int.emod_nonneg _ (Int.ne_of_gt hm)) (Int.emod_lt_of_pos _ hm)⟩
      omega
    · have hc2 : c + 1 ≤ 2 ^ 61 := by
        have : (2 : Int) ^ 61 = 2305843009213693952 := by decide
        have : (2 : Nat) ^ 60 = 1152921504606846976 := by decide
        omega
      have hc3 : 0 ≤ c + 1 := by omega
      refine ⟨_, rfl, p, _, _, .int c, rfl, rfl, SqL.of hp, rfl, c, 1, rfl, rfl, _, rfl, p, _, _, 2, rfl, rfl, hp, rfl, ?_⟩
      have hp2 : (upd H p (.lst ([V.int a, V.int b, V.int c].set 2 (V.int (c + 1))))) p = some (.lst [.int a, .int b, .int (c + 1)]) := upd_same
      obtain ⟨s1, s2⟩ := mix1w hb hb2 hc3 hc2
      refine ⟨_, rfl, p, _, _, .int b, rfl, rfl, SqL.of hp2, rfl, _, rfl, p, _, _, .int (c + 1), rfl, rfl, SqL.of hp2, rfl, _, _, rfl, rfl, .inl ⟨by decide, by decide⟩, _, _, rfl, rfl, _, _, rfl, rfl, powW s2 (by decide) (by decide) (by decide), _, rfl, p, _, _, .int (c + 1), rfl, rfl, SqL.of hp2, rfl, _, _, rfl, rfl, .inl ⟨_, rfl, ?_⟩⟩
      refine ⟨_, rfl, .inl ⟨_, rfl, _, _, rfl, rfl, (by show (0 : Int) < 618970019642690137449562111; decide), ?_⟩⟩
      have e1 := Int.emod_nonneg ((b + 1299709 * (c + 1)) ^ (3 : Int).toNat + (c + 1)) (show (618970019642690137449562111 : Int) ≠ 0 by decide)
      have e2 := Int.emod_lt_of_pos ((b + 1299709 * (c + 1)) ^ (3 : Int).toNat + (c + 1)) (show (0 : Int) < 618970019642690137449562111 by decide)
      obtain ⟨s3, s4⟩ := mix2w e1 e2 hc3 hc2
      refine ⟨_, rfl, _, rfl, p, _, _, .int (c + 1), rfl, rfl, SqL.of hp2, rfl, _, _, rfl, rfl, .inl ⟨by decide, by decide⟩, _, _, rfl, rfl, _, _, rfl, rfl, powW s4 (by decide) (by decide) (by decide), .inl ⟨_, rfl, ?_⟩⟩
      refine ⟨_, rfl, .inl ⟨_, rfl, _, _, rfl, rfl, (by show (0 : Int) < 162259276829213363391578010288127; decide), ?_⟩⟩
      refine ⟨_, rfl, _, _, rfl, rfl, wide_div (b := 21) (by decide) (by decide) (by decide) (by decide), .inl ⟨_, rfl, _, rfl, _, _, rfl, rfl, hm, ?_⟩⟩
      refine k _ _ keep_upd ⟨a, b, c + 1, hp2, ha, hb, hb2, hc3, ?_⟩ (Int.emod_nonneg _ (Int.ne_of_gt hm)) (Int.emod_lt_of_pos _ hm)
      omega
theorem sc_law_of : FnScope [("_law_pool_here" : Str), ("_law_some" : Str)] [("_law_pool_here" : Str), ("_law_some" : Str)] (defScope s_law_of) := ⟨rfl, rfl, rfl, by decide +kernel, rfl, by decide +kernel, by decide +kernel⟩
theorem ok_of (D : TopD K mg "_law_of" s_law_of) (T : Blt mg) (F_draw : FnAt P w K mg base "_law_draw" [("_law_pool_here" : Str), ("_law_many" : Str)] 1 spDraw) : FnAt P w K mg base "_law_of" [("_law_pool_here" : Str), ("_law_some" : Str)] 2 (spOf K) := by
  refine fn_at D sc_law_of (fun _ _ _ _ _ _ us hl => match us, hl with | [_, _], _ => rfl) (fun vs H Q E h => ?_) (fun f cdv A outer s H vs Q E hr h => ?_)
  · obtain ⟨p, l, n, xs, rfl, _⟩ := h
    rfl
  · obtain ⟨p, l, n, xs, rfl, hp, hn, hS, hne, h0, hl, k⟩ := h
    refine ⟨_, (pss_one (ps_ret (pe_ix ix_list (pv 1) (pe_fn F_draw (hr.mono (by decide)) (by rfl) (pa_cons (pv 0) (pa_cons (pe_callB call_len_seq (by rfl) T.len PySem.boot_len (pa_cons (pv 1) pa_nil)) pa_nil))) (fun _ _ => rfl)))), ?_⟩
    refine ⟨_, rfl, _, rfl, _, rfl, l, _, rfl, .inl hS, p, n, _, rfl, hp, hn, by omega, ?_, fun H' d kp pl d0 d1 => ?_⟩
    · have e2 : (1000 : Nat) < 2 ^ 200 := by decide
      omega
    · have hd : d.toNat < xs.length := by omega
      exact ⟨l, xs, d, xs[d.toNat], rfl, rfl, sqL_keep hS hne kp, at_of (j := d.toNat) (by omega) (List.getElem?_eq_getElem hd), k _ _ kp pl (List.getElem_mem hd)⟩
end
end Ow

/-! the laws' drawn words -/
namespace Ow
open PySem PySem.Spec L2
theorem let_at (m : Nat) : atI LET.cps.toList (((m : Nat) : Int) % 26) = some (ltr m) := by
  have q : ∀ i : Fin 26, LET.cps.toList[i.val]? = some (97 + i.val) := by decide +kernel
  have e : ((m : Nat) : Int) % 26 = ((m % 26 : Nat) : Int) := by omega
  rw [e]
  exact atI_nat (q ⟨m % 26, by omega⟩)
section
variable {P : Program} {w : World} {K : PySem.W.Frag} {mg : Str → Option Value} {base : Heap}
theorem sc_law_letters : FnScope [("_law_number" : Str), ("_law_size" : Str), ("_law_word_here" : Str), ("_law_k" : Str)] [("_law_number" : Str), ("_law_size" : Str)] (defScope s_law_letters) := ⟨rfl, rfl, rfl, by decide +kernel, rfl, by decide +kernel, by decide +kernel⟩
theorem ok_letters (D : TopD K mg "_law_letters" s_law_letters) (T : Blt mg) : FnAt P w K mg base "_law_letters" [("_law_number" : Str), ("_law_size" : Str)] 1 spLetters := by
  refine fn_at D sc_law_letters (fun _ _ _ _ _ _ us hl => match us, hl with | [_, _], _ => rfl) (fun vs H Q E h => ?_) (fun f cdv A outer s H vs Q E hr h => ?_)
  · obtain ⟨n, k, rfl, _⟩ := h
    rfl
  · obtain ⟨n, k, rfl, hn, hk, kk⟩ := h
    refine ⟨_, (pss_cons (ps_set (i := 2) sc_law_letters.nd rfl (Or.inl rfl) pe_str)
      (pss_cons (ps_for PassesOwn.never rfl (pi_range1 rfl T.range (pa_cons (pv 1) pa_nil)) (pg_name (i := 3) sc_law_letters.nd rfl (Or.inl rfl))
      (pss_cons (ps_set (i := 2) sc_law_letters.nd rfl (Or.inl rfl) (pe_op op_add_str (pv 2) (pe_ix ix_str pe_str (pe_op op_mod (pe_callTy call_int1 (by rfl) T.int (by decide +kernel) (pa_cons (pv 0) pa_nil)) pe_int) (fun _ _ => rfl))))
      (pss_one (ps_set (i := 0) sc_law_letters.nd rfl (Or.inl rfl) (pe_op op_fdivW (pv 0) pe_int)))))
      (pss_one (ps_ret (pv 2))))), ?_⟩
    refine ⟨_, rfl, k, rfl, by omega, by omega, ?_⟩
    refine for_range (lo := 0) (n := k) (fun i σ H' => ∃ x3 : Option V, σ = [some (.int ((n / 26 ^ i : Nat) : Int)), some (.int (k : Int)), some (.str ⟨(lets n i).toArray⟩), x3] ∧ Same H H') ⟨none, by rw [Nat.pow_zero, Nat.div_one] <;> rfl, Same.refl H⟩ ?_ ?_
    · rintro i σ H1 hi ⟨x3, rfl, s1⟩
      have hsz : LET.length ≤ sizeLine := by decide +kernel
      refine ⟨_, rfl, _, rfl, .inl ⟨_, rfl, _, _, rfl, rfl, (by show (0 : Int) < 26; decide), LET, _, ltr (n / 26 ^ i), rfl, rfl, hsz, let_at _, _, _, rfl, rfl, ?_, ?_⟩⟩
      · show (lets n i).toArray.size + 1 ≤ _
        rw [List.size_toArray, lets_len, sizeLine_eq]
        omega
      refine ⟨_, rfl, _, _, rfl, rfl, wide_div (b := 5) (by decide) (by decide) (by decide) (by decide), ?_⟩
      refine ⟨some (.int (0 + (i : Int))), ?_, s1⟩
      have e1 : (((n / 26 ^ i : Nat) : Int) / 26) = ((n / 26 ^ (i + 1) : Nat) : Int) := by
        rw [Nat.pow_succ, ← Nat.div_div_eq_div_mul]
        omega
      have e2 : (⟨(lets n i).toArray⟩ : Str) ++ (⟨#[ltr (n / 26 ^ i)]⟩ : Str) = ⟨(lets n (i + 1)).toArray⟩ := by
        refine TL.ext_tl ?_
        rw [TL.tl_append]
        show lets n i ++ [ltr (n / 26 ^ i)] = lets n (i + 1)
        rw [lets_succ]
      show [some (V.int (((n / 26 ^ i : Nat) : Int) / 26)), some (V.int (k : Int)), some (V.str ((⟨(lets n i).toArray⟩ : Str) ++ (⟨#[ltr (n / 26 ^ i)]⟩ : Str))), _] = _
      rw [e1, e2]
    · rintro σ H1 ⟨x3, rfl, s1⟩
      exact ⟨_, rfl, kk _ s1⟩
theorem sc_law_word : FnScope [("_law_pool_here" : Str), ("_law_taken" : Str), ("_law_size" : Str), ("_law_number" : Str), ("_law_word_here" : Str), ("_law_turn" : Str)] [("_law_pool_here" : Str), ("_law_taken" : Str)] (defScope s_law_word) := ⟨rfl, rfl, rfl, by decide +kernel, rfl, by decide +kernel, by decide +kernel⟩
theorem ok_word (D : TopD K mg "_law_word" s_law_word) (T : Blt mg) (F_draw : FnAt P w K mg base "_law_draw" [("_law_pool_here" : Str), ("_law_many" : Str)] 1 spDraw) (F_letters : FnAt P w K mg base "_law_letters" [("_law_number" : Str), ("_law_size" : Str)] 1 spLetters) : FnAt P w K mg base "_law_word" [("_law_pool_here" : Str), ("_law_taken" : Str)] 2 (spWord K) := by
  refine fn_at D sc_law_word (fun _ _ _ _ _ _ us hl => match us, hl with | [_, _], _ => rfl) (fun vs H Q E h => ?_) (fun f cdv A outer s H vs Q E hr h => ?_)
  · obtain ⟨p, l, n, tk, rfl, _⟩ := h
    rfl
  · obtain ⟨p, l, n, tk, rfl, hp, hn, hS, htk, kk⟩ := h
    have b60 : (2 : Nat) ^ 50 + 100 < 2 ^ 60 := by decide
    refine ⟨_, (pss_cons (ps_par (i := 2) (j := 3) (by rfl) sc_law_word.nd rfl rfl (by decide) rfl rfl (pa_cons (pe_op op_add pe_int (pe_fn F_draw (hr.mono (by decide)) (by rfl) (pa_cons (pv 0) (pa_cons pe_int pa_nil)))) (pa_cons (pe_fn F_draw (hr.mono (by decide)) (by rfl) (pa_cons (pv 0) (pa_cons (pe_op op_powW pe_int pe_int) pa_nil))) pa_nil)) (by rfl))
      (pss_cons (ps_set (i := 4) sc_law_word.nd rfl (Or.inl rfl) pe_str)
      (pss_cons (ps_for PassesOwn.never rfl (pi_range1 rfl T.range (pa_cons (pe_op op_add (pe_callB call_len_seq (by rfl) T.len PySem.boot_len (pa_cons (pv 1) pa_nil)) pe_int) pa_nil)) (pg_name (i := 5) sc_law_word.nd rfl (Or.inl rfl))
      (pss_cons (ps_set (i := 4) sc_law_word.nd rfl (Or.inl rfl) (pe_fn F_letters (hr.mono (by decide)) (by rfl) (pa_cons (pe_op op_add (pv 3) (pv 5)) (pa_cons (pv 2) pa_nil))))
      (pss_one (ps_if (PW.pt (pw_and (pt_cmpR op_notIn_seq (pv 4) (pv 1) rfl) (pw_and1 (pt_cmpR op_notIn_seq (pv 4) (pe_lst (pa_cons pe_str (pa_cons pe_str (pa_cons pe_str pa_nil)))) rfl))))
      (pss_one (ps_ret (pv 4)))
      pss_nil))))
      (pss_one (ps_ret (pv 4)))))), ?_⟩
    refine ⟨_, rfl, p, n, 8, rfl, hp, by omega, by decide, by decide, fun H1 d1 k1 p1 d10 d11 => ?_⟩
    refine ⟨_, _, rfl, rfl, _, rfl, _, _, rfl, rfl, powW (n := 5) (by decide) (by decide) (by decide) (by decide), p, n + 1, _, rfl, p1, by omega, by decide, by decide, fun H2 d2 k2 p2 d20 d21 => ?_⟩
    refine ⟨_, _, rfl, ?_⟩
    have kp : Keep p H H2 := k1.trans k2
    have hS2 : SqL K H2 l (tk.map V.str) := (less_same p H2).seq ((less_keep kp).seq hS)
    refine ⟨_, rfl, l, _, rfl, .inl hS2, _, _, rfl, rfl, _, rfl, ?_, ?_, ?_⟩
    · rw [List.length_map]; omega
    · rw [List.length_map]; omega
    obtain ⟨sz, rfl⟩ : ∃ sz : Nat, d1 = (sz : Int) := ⟨d1.toNat, by omega⟩
    obtain ⟨nu, rfl⟩ : ∃ nu : Nat, d2 = (nu : Int) := ⟨d2.toNat, by omega⟩
    have e0 : ((((tk.map V.str).length : Nat) : Int) + 4 - 0).toNat = tk.length + 4 := by rw [List.length_map]; omega
    refine for_range (lo := 0) (fun i σ H' => ∃ x4 x5 : Option V, σ = [some (.ref p), some (.ref l), some (.int (1 + (sz : Int))), some (.int (nu : Int)), x4, x5] ∧ Keep p H H' ∧ PoolAt H' p (n + 2) ∧ ∀ t, t < i → lettersOf (nu + t) (1 + sz) ∈ tk ∨ lettersOf (nu + t) (1 + sz) ∈ BAR)
      ⟨_, _, rfl, kp, p2, fun _ z => absurd z (Nat.not_lt_zero _)⟩ ?_ ?_
    · rintro i σ H3 hi ⟨x4, x5, rfl, k3, p3, old⟩
      have nub : nu < 2 ^ 40 := by
        have e : ((26 : Int) ^ (8 : Int).toNat) = 208827064576 := by decide
        have : (2 : Nat) ^ 40 = 1099511627776 := by decide
        rw [e] at d21
        omega
      have htl : (tk.map V.str).length = tk.length := List.length_map ..
      have hib : nu + i < 2 ^ 100 := by
        have : (2 : Nat) ^ 40 + 100 < 2 ^ 100 := by decide
        omega
      refine ⟨_, rfl, _, rfl, _, _, rfl, rfl, _, rfl, nu + i, 1 + sz, ?_, hib, by omega, fun H4 s4 => ?_⟩
      · show [V.int ((nu : Int) + (0 + (i : Int))), V.int (1 + (sz : Int))] = _
        have e1 : (nu : Int) + (0 + (i : Int)) = ((nu + i : Nat) : Int) := by omega
        have e2 : 1 + (sz : Int) = ((1 + sz : Nat) : Int) := by omega
        rw [e1, e2]
      have k4 : Keep p H H4 := k3.trans (Keep.of s4)
      have hS4 : SqL K H4 l (tk.map V.str) := (less_same p H4).seq ((less_keep k4).seq hS)
      refine ⟨_, rfl, _, rfl, l, _, rfl, .inl hS4, rfl, flat_strs tk, _, rfl, ?_⟩
      show if (!inV (.str (lettersOf (nu + i) (1 + sz))) (tk.map V.str)) = true then _ else _
      rw [inV_str]
      have nxt : (lettersOf (nu + i) (1 + sz) ∈ tk ∨ lettersOf (nu + i) (1 + sz) ∈ BAR) → ∀ t, t < i + 1 → lettersOf (nu + t) (1 + sz) ∈ tk ∨ lettersOf (nu + t) (1 + sz) ∈ BAR := fun z t ht => by
        rcases Nat.lt_or_ge t i with h | h
        · exact old t h
        · have e : t = i := by omega
          rw [e]
          exact z
      by_cases h1 : lettersOf (nu + i) (1 + sz) ∈ tk
      · rw [decide_eq_true h1]
        exact ⟨_, _, rfl, k4, p3.same s4, nxt (.inl h1)⟩
      · rw [decide_eq_false h1]
        refine iteT ?_
        refine ⟨_, rfl, by show 3 ≤ sizeLine; decide, fun q hq => ?_⟩
        have s5 := s4.trans (same_upd (o := .lst (BAR.map V.str)) hq)
        refine ⟨q, _, rfl, .inl (SqL.of upd_same), rfl, rfl, _, rfl, ?_⟩
        show if (!inV (.str (lettersOf (nu + i) (1 + sz))) (BAR.map V.str)) = true then _ else _
        rw [inV_str]
        by_cases h2 : lettersOf (nu + i) (1 + sz) ∈ BAR
        · rw [decide_eq_true h2]
          exact ⟨_, _, rfl, k3.trans (Keep.of s5), p3.same s5, nxt (.inr h2)⟩
        · rw [decide_eq_false h2]
          refine iteT ?_
          exact ⟨_, rfl, kk _ _ (k3.trans (Keep.of s5)) (p3.same s5) (letters_isW (by omega) (by omega)) h1 h2⟩
    · rintro σ H3 ⟨x4, x5, rfl, k3, p3, old⟩
      exact (word_free (by omega) htk (fun t ht => old t (by rw [← e0] at ht; first | exact ht | (simp only [List.length_map] at ht ⊢; omega)))).elim
end
end Ow

/-! the laws' drawn tables -/
namespace Ow
open PySem PySem.Spec L2
section
variable {P : Program} {w : World} {K : PySem.W.Frag} {mg : Str → Option Value} {base : Heap}
theorem sc_law_tables : FnScope [("_law_pool_here" : Str), ("_law_most" : Str), ("_law_widest" : Str), ("_law_names" : Str), ("_law_k" : Str), ("_law_tables_here" : Str), ("_law_name" : Str), ("_law_columns_here" : Str), ("_law_kind" : Str), ("_law_target" : Str), ("_law_rule" : Str), ("_law_column" : Str)] [("_law_pool_here" : Str), ("_law_most" : Str), ("_law_widest" : Str)] (defScope s_law_tables) := ⟨rfl, rfl, rfl, by decide +kernel, rfl, by decide +kernel, by decide +kernel⟩
theorem ok_tables (D : TopD K mg "_law_tables" s_law_tables) (T : Blt mg) (F_draw : FnAt P w K mg base "_law_draw" [("_law_pool_here" : Str), ("_law_many" : Str)] 1 spDraw) (F_of : FnAt P w K mg base "_law_of" [("_law_pool_here" : Str), ("_law_some" : Str)] 2 (spOf K)) (F_word : FnAt P w K mg base "_law_word" [("_law_pool_here" : Str), ("_law_taken" : Str)] 2 (spWord K)) :
    FnAt P w K mg base "_law_tables" [("_law_pool_here" : Str), ("_law_most" : Str), ("_law_widest" : Str)] 3 (spTables K) := by
  refine fn_at D sc_law_tables (fun _ _ _ _ _ _ us hl => match us, hl with | [_, _, _], _ => rfl) (fun vs H Q E h => ?_) (fun f cdv A outer s H vs Q E hr h => ?_)
  · obtain ⟨p, n, most, wid, rfl, _⟩ := h
    rfl
  · obtain ⟨p, n, most, wid, rfl, hp, hn, hm1, hm5, hw6, kk⟩ := h
    have b60 : (2 : Nat) ^ 50 + 2000 < 2 ^ 60 := by decide
    have b50 : (2 : Nat) ^ 40 + 2000 < 2 ^ 50 := by decide
    refine ⟨_, (pss_cons (ps_set (i := 3) sc_law_tables.nd rfl (Or.inl rfl) (pe_lst pa_nil))
      (pss_cons (ps_for PassesOwn.never rfl (pi_range1 rfl T.range (pa_cons (pe_op op_add pe_int (pe_fn F_draw (hr.mono (by decide)) (by rfl) (pa_cons (pv 0) (pa_cons (pv 1) pa_nil)))) pa_nil)) (pg_name (i := 4) sc_law_tables.nd rfl (Or.inl rfl))
      (pss_one (ps_expr (pe_bm PySem.F.plainAttrs_list PySem.F.slot_list_append PySem.F.type_list_append mt_append (pv 3) (pa_cons (pe_fn F_word (hr.mono (by decide)) (by rfl) (pa_cons (pv 0) (pa_cons (pv 3) pa_nil))) pa_nil)))))
      (pss_cons (ps_set (i := 5) sc_law_tables.nd rfl (Or.inl rfl) (pe_lst pa_nil))
      (pss_cons (ps_for PassesOwn.never rfl (pi_list (pv 3)) (pg_name (i := 6) sc_law_tables.nd rfl (Or.inl rfl))
      (pss_cons (ps_set (i := 7) sc_law_tables.nd rfl (Or.inl rfl) (pe_lst pa_nil))
      (pss_cons (ps_for PassesOwn.never rfl (pi_range1 rfl T.range (pa_cons (pe_fn F_draw (hr.mono (by decide)) (by rfl) (pa_cons (pv 0) (pa_cons (pe_op op_add (pv 2) pe_int) pa_nil))) pa_nil)) (pg_name (i := 4) sc_law_tables.nd rfl (Or.inl rfl))
      (pss_cons (ps_set (i := 8) sc_law_tables.nd rfl (Or.inl rfl) (pe_fn F_of (hr.mono (by decide)) (by rfl) (pa_cons (pv 0) (pa_cons (pe_lst (pa_cons pe_str (pa_cons pe_str (pa_cons pe_str (pa_cons pe_str pa_nil))))) pa_nil))))
      (pss_cons (ps_set (i := 9) sc_law_tables.nd rfl (Or.inl rfl) (pe_ifExp (pt_cmpR op_eq (pv 8) pe_str (nomark _)) (pe_fn F_of (hr.mono (by decide)) (by rfl) (pa_cons (pv 0) (pa_cons (pv 3) pa_nil))) pe_non))
      (pss_cons (ps_set (i := 10) sc_law_tables.nd rfl (Or.inl rfl) (pe_ifExp (pt_cmpR op_eq (pv 8) pe_str (nomark _)) (pe_fn F_of (hr.mono (by decide)) (by rfl) (pa_cons (pv 0) (pa_cons (pe_lst (pa_cons pe_str (pa_cons pe_str (pa_cons pe_str pa_nil)))) pa_nil))) pe_non))
      (pss_one (ps_expr (pe_bm PySem.F.plainAttrs_list PySem.F.slot_list_append PySem.F.type_list_append mt_append (pv 7) (pa_cons (pe_tup (pa_cons (pe_fn F_word (hr.mono (by decide)) (by rfl) (pa_cons (pv 0) (pa_cons (pe_lc (own := [(("_law_column" : Str), 11)]) (by rfl) sc_law_tables.nd (pi_list (pv 7)) (blkOk_by (own := [(("_law_column" : Str), 11)]) (N := [("_law_pool_here" : Str), ("_law_most" : Str), ("_law_widest" : Str), ("_law_names" : Str), ("_law_k" : Str), ("_law_tables_here" : Str), ("_law_name" : Str), ("_law_columns_here" : Str), ("_law_kind" : Str), ("_law_target" : Str), ("_law_rule" : Str), ("_law_column" : Str)]) (sc := defScope s_law_tables) (by decide +kernel)) (fun _ _ _ _ _ => pg_name (i := 11) sc_law_tables.nd rfl (Or.inl rfl)) (fun _ _ _ _ _ => pts_nil) (fun _ _ _ _ _ => (pe_ix (ix_tupK (K := K)) (pv 11) pe_int (fun _ _ => rfl)))) pa_nil))) (pa_cons (pv 8) (pa_cons (pv 9) (pa_cons (pv 10) pa_nil))))) pa_nil))))))))
      (pss_one (ps_expr (pe_bm PySem.F.plainAttrs_list PySem.F.slot_list_append PySem.F.type_list_append mt_append (pv 5) (pa_cons (pe_tup (pa_cons (pv 6) (pa_cons (pv 7) pa_nil))) pa_nil)))))))
      (pss_one (ps_ret (pv 5))))))), ?_⟩
    refine ⟨by show 0 ≤ sizeLine; decide, fun nl hnl => ?_⟩
    have nnp : nl ≠ p := hp.ne hnl
    have s0 := same_upd (o := .lst []) hnl
    refine ⟨_, rfl, _, rfl, p, n, (most : Int), rfl, hp.same s0, by omega, by omega, ?_, fun H1 d1 k1 p1 d10 d11 => ?_⟩
    · have e2 : (1000 : Nat) < 2 ^ 200 := by decide
      omega
    refine ⟨_, _, rfl, rfl, _, rfl, by omega, by omega, ?_⟩
    refine for_range (lo := 0) (fun i σ H' => ∃ (x4 x5 x6 x7 x8 x9 x10 x11 : Option V) (ns : List Str), σ = [some (.ref p), some (.int (most : Int)), some (.int (wid : Int)), some (.ref nl), x4, x5, x6, x7, x8, x9, x10, x11] ∧ Keep p H H' ∧ PoolAt H' p (n + 1 + 2 * i) ∧ H' nl = some (.lst (ns.map V.str)) ∧ NmOk ns ∧ ns.length = i)
      ⟨_, _, _, _, _, _, _, _, [], rfl, (Keep.of s0).trans k1, p1, k1 _ _ nnp upd_same, ⟨.nil, fun _ z => nomatch z⟩, rfl⟩ ?_ ?_
    · rintro i σ H2 hi ⟨x4, x5, x6, x7, x8, x9, x10, x11, ns, rfl, k2, p2, hnl2, nok, hln⟩
      refine ⟨_, rfl, .inl ⟨rfl, _, SqL.of hnl2⟩, _, rfl, _, rfl, p, nl, n + 1 + 2 * i, ns, rfl, p2, by omega, SqL.of (by rw [less_ne nnp]; exact hnl2), by omega, fun H3 z k3 p3 z1 z2 z3 => ?_⟩
      have hnl3 := k3 _ _ nnp hnl2
      refine ⟨nl, _, _, rfl, rfl, hnl3, ?_, ?_⟩
      · rw [List.length_map, sizeLine_eq]
        omega
      refine ⟨_, _, _, _, _, _, _, _, ns ++ [z], rfl, ?_, ?_, ?_, nok.app z1 z2 z3, by rw [List.length_append, hln]; rfl⟩
      · exact fun b o nb e => by
          rw [upd_ne (ne_of_none e hnl)]
          exact k3 _ _ nb (k2 _ _ nb e)
      · obtain ⟨a, b, c, q, r⟩ := p3.mono (show n + 1 + 2 * i + 2 ≤ n + 1 + 2 * (i + 1) by omega)
        exact ⟨a, b, c, by rw [upd_ne nnp.symm]; exact q, r⟩
      · rw [upd_same, List.map_append]
        rfl
    · rintro σ H2 ⟨x4, x5, x6, x7, x8, x9, x10, x11, ns, rfl, k2, p2, hnl2, nok, hln⟩
      have hl5 : 1 ≤ ns.length ∧ ns.length ≤ 5 := by omega
      have p2 : PoolAt H2 p (n + 11) := p2.mono (by omega)
      clear hln
      refine ⟨by show 0 ≤ sizeLine; decide, fun tl htl => ?_⟩
      have s2 := same_upd (o := .lst []) htl
      have ntp : tl ≠ p := p2.ne htl
      have ntn : nl ≠ tl := ne_of_none hnl2 htl
      have htl0 : H tl = none := by
        cases e : H tl with
        | none => rfl
        | some o => rw [k2 _ _ ntp e] at htl; cases htl
      refine ⟨_, rfl, nl, rfl, ⟨_, SqL.of (s2 _ _ hnl2)⟩, ?_⟩
      refine for_list (K := K) (a := nl) (xs := ns.map V.str) (fun i σ H' => ∃ (x4 x6 x7 x8 x9 x10 x11 : Option V) (ts : List Tab) (xs : List V), σ = [some (.ref p), some (.int (most : Int)), some (.int (wid : Int)), some (.ref nl), x4, some (.ref tl), x6, x7, x8, x9, x10, x11] ∧ Keep p H H' ∧ PoolAt H' p (n + 11 + 40 * i) ∧
        H' nl = some (.lst (ns.map V.str)) ∧ H' tl = some (.lst xs) ∧ DpAll K (less tl (less p H')) xs (ts.map dTab) ∧ ts.map Prod.fst = ns.take i ∧ ∀ t ∈ ts, ClOk ns t.2 ∧ t.2.length ≤ wid)
        ⟨_, _, _, _, _, _, _, [], [], rfl, k2.trans (Keep.of s2), p2.same s2, s2 _ _ hnl2, upd_same, .nil, rfl, (fun _ z => nomatch z)⟩ (fun i σ H' _ ⟨_, _, _, _, _, _, _, _, _, _, _, _, h, _⟩ => SqL.of h) ?_ ?_
      · rintro i x σ H3 hx ⟨x4, x6, x7, x8, x9, x10, x11, ts, xs, rfl, k3, p3, hnl3, htl3, dp3, hts, hok⟩
        rw [List.getElem?_map] at hx
        obtain ⟨nm, hx2, rfl⟩ := Option.map_eq_some_iff.mp hx
        clear hx
        have hi : i < ns.length := (List.getElem?_eq_some_iff.mp hx2).1
        refine ⟨by show 0 ≤ sizeLine; decide, fun cl hcl => ?_⟩
        have s4 := same_upd (o := .lst []) hcl
        have ncp : cl ≠ p := p3.ne hcl
        have nct : tl ≠ cl := ne_of_none htl3 hcl
        refine ⟨_, rfl, _, rfl, _, _, rfl, rfl, p, _, (wid : Int) + 1, rfl, p3.same s4, by omega, by omega, ?_, fun H5 d5 k5 p5 d50 d51 => ?_⟩
        · have e2 : (1000 : Nat) < 2 ^ 200 := by decide
          omega
        refine ⟨_, rfl, by omega, by omega, ?_⟩
        refine for_range (lo := 0) (fun j σ H' => ∃ (y4 y8 y9 y10 y11 : Option V) (cs : List Col) (ys : List V), σ = [some (.ref p), some (.int (most : Int)), some (.int (wid : Int)), some (.ref nl), y4, some (.ref tl), some (.str nm), some (.ref cl), y8, y9, y10, y11] ∧ Keep p H3 H' ∧ PoolAt H' p (n + 11 + 40 * i + 1 + 5 * j) ∧
          H' cl = some (.lst ys) ∧ DpAll K (tups H') ys (cs.map dCol) ∧ ClOk ns cs ∧ cs.length = j)
          ⟨_, _, _, _, _, [], [], rfl, (Keep.of s4).trans k5, p5, k5 _ _ ncp upd_same, .nil, ⟨.nil, fun _ z => nomatch z⟩, rfl⟩ ?_ ?_
        · rintro j σ H6 hj ⟨y4, y8, y9, y10, y11, cs, ys, rfl, k6, p6, hcl6, dp6, cok, hcs⟩
          have hj6 : j < 6 := by omega
          refine ⟨_, rfl, by show 4 ≤ sizeLine; decide, fun q1 hq1 => ?_⟩
          have s7 := same_upd (o := .lst [V.str ("link" : Str), V.str ("flag" : Str), V.str ("value" : Str), V.str ("link" : Str)]) hq1
          refine ⟨p, q1, _, _, rfl, p6.same s7, by omega, SqL.of upd_same, p6.ne hq1, by decide, by decide, fun H7 v k7 p7 hv => ?_⟩
          have kh7 : Keep p H6 H7 := (Keep.of s7).trans k7
          simp only [List.mem_cons, List.not_mem_nil, or_false] at hv
          rcases hv with rfl | rfl | rfl | rfl
          · refine ⟨_, rfl, rfl, _, rfl, ?_⟩
            refine ite2 (fun _ => ?_) (fun z => absurd (decide_eq_true rfl) z)
            have hnl7 : H7 nl = some (.lst (ns.map V.str)) := kh7 _ _ nnp (k6 _ _ nnp hnl3)
            refine ⟨_, rfl, _, rfl, p, nl, _, ns.map V.str, rfl, p7, by omega, SqL.of hnl7, nnp, by rw [List.length_map]; omega, by rw [List.length_map]; omega, fun H8 v8 k8 p8 hv8 => ?_⟩
            obtain ⟨tg, htg, rfl⟩ := List.mem_map.mp hv8
            refine ⟨_, rfl, rfl, _, rfl, ?_⟩
            refine ite2 (fun _ => ?_) (fun z => absurd (decide_eq_true rfl) z)
            refine ⟨_, rfl, by show 3 ≤ sizeLine; decide, fun q2 hq2 => ?_⟩
            have s9 := same_upd (o := .lst (RUL.map V.str)) hq2
            refine ⟨p, q2, _, _, rfl, p8.same s9, by omega, SqL.of upd_same, p8.ne hq2, by decide, by decide, fun H9 v9 k9 p9 hv9 => ?_⟩
            obtain ⟨ru, hru, rfl⟩ := List.mem_map.mp (show v9 ∈ RUL.map V.str from hv9)
            have kX : Keep p H6 H9 := kh7.trans (k8.trans ((Keep.of s9).trans k9))
            have hco : ∀ z : Str, isW z = true → z ∉ BAR → ColOk ns ⟨z, ("link" : Str), some tg, some ru⟩ := fun z z1 z3 => ⟨z1, z3, .inl ⟨rfl, tg, ru, rfl, rfl, htg, hru⟩⟩
            have hclX := kX _ _ ncp hcl6
            have sX : Same (tups H6) (tups H9) := tups_keep kX p6
            have dpX := DpAll.same sX _ _ dp6
            have hyl := DpAll.len dp6
            rw [List.length_map] at hyl
            refine ⟨_, rfl, .inl ⟨rfl, _, SqL.of hclX⟩, _, rfl, _, rfl, cl, rfl, ⟨_, SqL.of hclX⟩, fun L hL => ?_⟩
            refine lc_list (K := K) (a := cl) (xs := ys) (fun e H' => H' L = some (.lst ((cs.take e).map fun c => V.str c.name)) ∧ Same H9 H') ⟨upd_same, same_upd hL⟩ (fun _ _ _ ⟨_, s'⟩ => SqL.of (s' _ _ hclX)) ?_ ?_
            · rintro e y H' hy ⟨hL', s'⟩
              obtain ⟨c, hc1, hc2⟩ := dp_at dpX hy
              obtain ⟨ac, rfl, hac⟩ := dCol_inv hc2
              refine ⟨rfl, yes_ ⟨_, rfl, ac, _, _, _, rfl, rfl, Same.sqT ((tups_in _).trans s') hac, atI_nat (j := 0) rfl, _, hL', ?_, ?_, ?_⟩⟩
              · rw [List.length_map, List.length_take, sizeLine_eq]
                omega
              · rw [upd_same, List.take_add_one, hc1, List.map_append]
                rfl
              · exact fun b o q => by rw [upd_ne (ne_of_none q hL)]; exact s' _ _ q
            · rintro H10 ⟨hL10, s10⟩
              rw [hyl, List.take_length] at hL10
              have hL10 : H10 L = some (.lst ((cs.map Col.name).map V.str)) := by rw [List.map_map]; exact hL10
              refine ⟨p, L, _, cs.map Col.name, rfl, p9.same s10, by omega, SqL.of (by rw [less_ne (p9.ne hL)]; exact hL10), by rw [List.length_map]; omega, fun H11 z k11 p11 z1 z2 z3 => ?_⟩
              have hcl11 := k11 _ _ ncp (s10 _ _ hclX)
              refine ⟨_, rfl, _, rfl, _, rfl, by show 4 ≤ sizeLine; decide, fun tt htt => ?_⟩
              have s12 := same_upd (o := .tup [V.str z, V.str ("link" : Str), oV (some tg), oV (some ru)]) htt
              have ntc : cl ≠ tt := ne_of_none hcl11 htt
              refine ⟨cl, _, _, rfl, rfl, s12 _ _ hcl11, ?_, ?_⟩
              · rw [sizeLine_eq]
                omega
              refine ⟨_, _, _, _, _, cs ++ [⟨z, ("link" : Str), (some tg), (some ru)⟩], ys ++ [.ref tt], rfl, ?_, ?_, upd_same, ?_, cok.app z2 (hco z z1 z3), by rw [List.length_append, hcs]; rfl⟩
              · exact fun b o nb q => by
                  rw [upd_ne (ne_of_none q hcl)]
                  exact s12 _ _ (k11 _ _ nb (s10 _ _ (kX _ _ nb (k6 _ _ nb q))))
              · obtain ⟨a, b, c, q, r⟩ := (p11.same s12).mono (show _ ≤ n + 11 + 40 * i + 1 + 5 * (j + 1) by omega)
                exact ⟨a, b, c, by rw [upd_ne ncp.symm]; exact q, r⟩
              · have sF : Same (tups H9) (tups (upd (upd H11 tt (.tup [V.str z, V.str ("link" : Str), oV (some tg), oV (some ru)])) cl (.lst (ys ++ [V.ref tt])))) :=
                  (tups_same s10).trans ((tups_keep k11 (p9.same s10)).trans ((tups_same s12).trans (tups_lst (s12 _ _ hcl11))))
                rw [List.map_append]
                exact DpAll.app (DpAll.same sF _ _ dpX) (.cons (.tup (SqT.of (tups_at (by rw [upd_ne ntc.symm]; exact upd_same))) (.cons (.str z) (.cons (.str _) (.cons (dp_oV _) (.cons (dp_oV _) .nil))))) .nil)
          · refine ⟨_, rfl, rfl, _, rfl, ?_⟩
            refine ite2 (fun z => absurd (of_decide_eq_true z) (by decide)) (fun _ => ?_)
            refine ⟨_, rfl, rfl, _, rfl, ?_⟩
            refine ite2 (fun z => absurd (of_decide_eq_true z) (by decide)) (fun _ => ?_)
            have hco : ∀ z : Str, isW z = true → z ∉ BAR → ColOk ns ⟨z, ("flag" : Str), none, none⟩ := fun z z1 z3 => ⟨z1, z3, .inr ⟨.inr rfl, rfl, rfl⟩⟩
            have hclX := kh7 _ _ ncp hcl6
            have sX : Same (tups H6) (tups H7) := tups_keep kh7 p6
            have dpX := DpAll.same sX _ _ dp6
            have hyl := DpAll.len dp6
            rw [List.length_map] at hyl
            refine ⟨_, rfl, .inl ⟨rfl, _, SqL.of hclX⟩, _, rfl, _, rfl, cl, rfl, ⟨_, SqL.of hclX⟩, fun L hL => ?_⟩
            refine lc_list (K := K) (a := cl) (xs := ys) (fun e H' => H' L = some (.lst ((cs.take e).map fun c => V.str c.name)) ∧ Same H7 H') ⟨upd_same, same_upd hL⟩ (fun _ _ _ ⟨_, s'⟩ => SqL.of (s' _ _ hclX)) ?_ ?_
            · rintro e y H' hy ⟨hL', s'⟩
              obtain ⟨c, hc1, hc2⟩ := dp_at dpX hy
              obtain ⟨ac, rfl, hac⟩ := dCol_inv hc2
              refine ⟨rfl, yes_ ⟨_, rfl, ac, _, _, _, rfl, rfl, Same.sqT ((tups_in _).trans s') hac, atI_nat (j := 0) rfl, _, hL', ?_, ?_, ?_⟩⟩
              · rw [List.length_map, List.length_take, sizeLine_eq]
                omega
              · rw [upd_same, List.take_add_one, hc1, List.map_append]
                rfl
              · exact fun b o q => by rw [upd_ne (ne_of_none q hL)]; exact s' _ _ q
            · rintro H10 ⟨hL10, s10⟩
              rw [hyl, List.take_length] at hL10
              have hL10 : H10 L = some (.lst ((cs.map Col.name).map V.str)) := by rw [List.map_map]; exact hL10
              refine ⟨p, L, _, cs.map Col.name, rfl, p7.same s10, by omega, SqL.of (by rw [less_ne (p7.ne hL)]; exact hL10), by rw [List.length_map]; omega, fun H11 z k11 p11 z1 z2 z3 => ?_⟩
              have hcl11 := k11 _ _ ncp (s10 _ _ hclX)
              refine ⟨_, rfl, _, rfl, _, rfl, by show 4 ≤ sizeLine; decide, fun tt htt => ?_⟩
              have s12 := same_upd (o := .tup [V.str z, V.str ("flag" : Str), oV none, oV none]) htt
              have ntc : cl ≠ tt := ne_of_none hcl11 htt
              refine ⟨cl, _, _, rfl, rfl, s12 _ _ hcl11, ?_, ?_⟩
              · rw [sizeLine_eq]
                omega
              refine ⟨_, _, _, _, _, cs ++ [⟨z, ("flag" : Str), none, none⟩], ys ++ [.ref tt], rfl, ?_, ?_, upd_same, ?_, cok.app z2 (hco z z1 z3), by rw [List.length_append, hcs]; rfl⟩
              · exact fun b o nb q => by
                  rw [upd_ne (ne_of_none q hcl)]
                  exact s12 _ _ (k11 _ _ nb (s10 _ _ (kh7 _ _ nb (k6 _ _ nb q))))
              · obtain ⟨a, b, c, q, r⟩ := (p11.same s12).mono (show _ ≤ n + 11 + 40 * i + 1 + 5 * (j + 1) by omega)
                exact ⟨a, b, c, by rw [upd_ne ncp.symm]; exact q, r⟩
              · have sF : Same (tups H7) (tups (upd (upd H11 tt (.tup [V.str z, V.str ("flag" : Str), oV none, oV none])) cl (.lst (ys ++ [V.ref tt])))) :=
                  (tups_same s10).trans ((tups_keep k11 (p7.same s10)).trans ((tups_same s12).trans (tups_lst (s12 _ _ hcl11))))
                rw [List.map_append]
                exact DpAll.app (DpAll.same sF _ _ dpX) (.cons (.tup (SqT.of (tups_at (by rw [upd_ne ntc.symm]; exact upd_same))) (.cons (.str z) (.cons (.str _) (.cons (dp_oV _) (.cons (dp_oV _) .nil))))) .nil)
          · refine ⟨_, rfl, rfl, _, rfl, ?_⟩
            refine ite2 (fun z => absurd (of_decide_eq_true z) (by decide)) (fun _ => ?_)
            refine ⟨_, rfl, rfl, _, rfl, ?_⟩
            refine ite2 (fun z => absurd (of_decide_eq_true z) (by decide)) (fun _ => ?_)
            have hco : ∀ z : Str, isW z = true → z ∉ BAR → ColOk ns ⟨z, ("value" : Str), none, none⟩ := fun z z1 z3 => ⟨z1, z3, .inr ⟨.inl rfl, rfl, rfl⟩⟩
            have hclX := kh7 _ _ ncp hcl6
            have sX : Same (tups H6) (tups H7) := tups_keep kh7 p6
            have dpX := DpAll.same sX _ _ dp6
            have hyl := DpAll.len dp6
            rw [List.length_map] at hyl
            refine ⟨_, rfl, .inl ⟨rfl, _, SqL.of hclX⟩, _, rfl, _, rfl, cl, rfl, ⟨_, SqL.of hclX⟩, fun L hL => ?_⟩
            refine lc_list (K := K) (a := cl) (xs := ys) (fun e H' => H' L = some (.lst ((cs.take e).map fun c => V.str c.name)) ∧ Same H7 H') ⟨upd_same, same_upd hL⟩ (fun _ _ _ ⟨_, s'⟩ => SqL.of (s' _ _ hclX)) ?_ ?_
            · rintro e y H' hy ⟨hL', s'⟩
              obtain ⟨c, hc1, hc2⟩ := dp_at dpX hy
              obtain ⟨ac, rfl, hac⟩ := dCol_inv hc2
              refine ⟨rfl, yes_ ⟨_, rfl, ac, _, _, _, rfl, rfl, Same.sqT ((tups_in _).trans s') hac, atI_nat (j := 0) rfl, _, hL', ?_, ?_, ?_⟩⟩
              · rw [List.length_map, List.length_take, sizeLine_eq]
                omega
              · rw [upd_same, List.take_add_one, hc1, List.map_append]
                rfl
              · exact fun b o q => by rw [upd_ne (ne_of_none q hL)]; exact s' _ _ q
            · rintro H10 ⟨hL10, s10⟩
              rw [hyl, List.take_length] at hL10
              have hL10 : H10 L = some (.lst ((cs.map Col.name).map V.str)) := by rw [List.map_map]; exact hL10
              refine ⟨p, L, _, cs.map Col.name, rfl, p7.same s10, by omega, SqL.of (by rw [less_ne (p7.ne hL)]; exact hL10), by rw [List.length_map]; omega, fun H11 z k11 p11 z1 z2 z3 => ?_⟩
              have hcl11 := k11 _ _ ncp (s10 _ _ hclX)
              refine ⟨_, rfl, _, rfl, _, rfl, by show 4 ≤ sizeLine; decide, fun tt htt => ?_⟩
              have s12 := same_upd (o := .tup [V.str z, V.str ("value" : Str), oV none, oV none]) htt
              have ntc : cl ≠ tt := ne_of_none hcl11 htt
              refine ⟨cl, _, _, rfl, rfl, s12 _ _ hcl11, ?_, ?_⟩
              · rw [sizeLine_eq]
                omega
              refine ⟨_, _, _, _, _, cs ++ [⟨z, ("value" : Str), none, none⟩], ys ++ [.ref tt], rfl, ?_, ?_, upd_same, ?_, cok.app z2 (hco z z1 z3), by rw [List.length_append, hcs]; rfl⟩
              · exact fun b o nb q => by
                  rw [upd_ne (ne_of_none q hcl)]
                  exact s12 _ _ (k11 _ _ nb (s10 _ _ (kh7 _ _ nb (k6 _ _ nb q))))
              · obtain ⟨a, b, c, q, r⟩ := (p11.same s12).mono (show _ ≤ n + 11 + 40 * i + 1 + 5 * (j + 1) by omega)
                exact ⟨a, b, c, by rw [upd_ne ncp.symm]; exact q, r⟩
              · have sF : Same (tups H7) (tups (upd (upd H11 tt (.tup [V.str z, V.str ("value" : Str), oV none, oV none])) cl (.lst (ys ++ [V.ref tt])))) :=
                  (tups_same s10).trans ((tups_keep k11 (p7.same s10)).trans ((tups_same s12).trans (tups_lst (s12 _ _ hcl11))))
                rw [List.map_append]
                exact DpAll.app (DpAll.same sF _ _ dpX) (.cons (.tup (SqT.of (tups_at (by rw [upd_ne ntc.symm]; exact upd_same))) (.cons (.str z) (.cons (.str _) (.cons (dp_oV _) (.cons (dp_oV _) .nil))))) .nil)
          · refine ⟨_, rfl, rfl, _, rfl, ?_⟩
            refine ite2 (fun _ => ?_) (fun z => absurd (decide_eq_true rfl) z)
            have hnl7 : H7 nl = some (.lst (ns.map V.str)) := kh7 _ _ nnp (k6 _ _ nnp hnl3)
            refine ⟨_, rfl, _, rfl, p, nl, _, ns.map V.str, rfl, p7, by omega, SqL.of hnl7, nnp, by rw [List.length_map]; omega, by rw [List.length_map]; omega, fun H8 v8 k8 p8 hv8 => ?_⟩
            obtain ⟨tg, htg, rfl⟩ := List.mem_map.mp hv8
            refine ⟨_, rfl, rfl, _, rfl, ?_⟩
            refine ite2 (fun _ => ?_) (fun z => absurd (decide_eq_true rfl) z)
            refine ⟨_, rfl, by show 3 ≤ sizeLine; decide, fun q2 hq2 => ?_⟩
            have s9 := same_upd (o := .lst (RUL.map V.str)) hq2
            refine ⟨p, q2, _, _, rfl, p8.same s9, by omega, SqL.of upd_same, p8.ne hq2, by decide, by decide, fun H9 v9 k9 p9 hv9 => ?_⟩
            obtain ⟨ru, hru, rfl⟩ := List.mem_map.mp (show v9 ∈ RUL.map V.str from hv9)
            have kX : Keep p H6 H9 := kh7.trans (k8.trans ((Keep.of s9).trans k9))
            have hco : ∀ z : Str, isW z = true → z ∉ BAR → ColOk ns ⟨z, ("link" : Str), some tg, some ru⟩ := fun z z1 z3 => ⟨z1, z3, .inl ⟨rfl, tg, ru, rfl, rfl, htg, hru⟩⟩
            have hclX := kX _ _ ncp hcl6
            have sX : Same (tups H6) (tups H9) := tups_keep kX p6
            have dpX := DpAll.same sX _ _ dp6
            have hyl := DpAll.len dp6
            rw [List.length_map] at hyl
            refine ⟨_, rfl, .inl ⟨rfl, _, SqL.of hclX⟩, _, rfl, _, rfl, cl, rfl, ⟨_, SqL.of hclX⟩, fun L hL => ?_⟩
            refine lc_list (K := K) (a := cl) (xs := ys) (fun e H' => H' L = some (.lst ((cs.take e).map fun c => V.str c.name)) ∧ Same H9 H') ⟨upd_same, same_upd hL⟩ (fun _ _ _ ⟨_, s'⟩ => SqL.of (s' _ _ hclX)) ?_ ?_
            · rintro e y H' hy ⟨hL', s'⟩
              obtain ⟨c, hc1, hc2⟩ := dp_at dpX hy
              obtain ⟨ac, rfl, hac⟩ := dCol_inv hc2
              refine ⟨rfl, yes_ ⟨_, rfl, ac, _, _, _, rfl, rfl, Same.sqT ((tups_in _).trans s') hac, atI_nat (j := 0) rfl, _, hL', ?_, ?_, ?_⟩⟩
              · rw [List.length_map, List.length_take, sizeLine_eq]
                omega
              · rw [upd_same, List.take_add_one, hc1, List.map_append]
                rfl
              · exact fun b o q => by rw [upd_ne (ne_of_none q hL)]; exact s' _ _ q
            · rintro H10 ⟨hL10, s10⟩
              rw [hyl, List.take_length] at hL10
              have hL10 : H10 L = some (.lst ((cs.map Col.name).map V.str)) := by rw [List.map_map]; exact hL10
              refine ⟨p, L, _, cs.map Col.name, rfl, p9.same s10, by omega, SqL.of (by rw [less_ne (p9.ne hL)]; exact hL10), by rw [List.length_map]; omega, fun H11 z k11 p11 z1 z2 z3 => ?_⟩
              have hcl11 := k11 _ _ ncp (s10 _ _ hclX)
              refine ⟨_, rfl, _, rfl, _, rfl, by show 4 ≤ sizeLine; decide, fun tt htt => ?_⟩
              have s12 := same_upd (o := .tup [V.str z, V.str ("link" : Str), oV (some tg), oV (some ru)]) htt
              have ntc : cl ≠ tt := ne_of_none hcl11 htt
              refine ⟨cl, _, _, rfl, rfl, s12 _ _ hcl11, ?_, ?_⟩
              · rw [sizeLine_eq]
                omega
              refine ⟨_, _, _, _, _, cs ++ [⟨z, ("link" : Str), (some tg), (some ru)⟩], ys ++ [.ref tt], rfl, ?_, ?_, upd_same, ?_, cok.app z2 (hco z z1 z3), by rw [List.length_append, hcs]; rfl⟩
              · exact fun b o nb q => by
                  rw [upd_ne (ne_of_none q hcl)]
                  exact s12 _ _ (k11 _ _ nb (s10 _ _ (kX _ _ nb (k6 _ _ nb q))))
              · obtain ⟨a, b, c, q, r⟩ := (p11.same s12).mono (show _ ≤ n + 11 + 40 * i + 1 + 5 * (j + 1) by omega)
                exact ⟨a, b, c, by rw [upd_ne ncp.symm]; exact q, r⟩
              · have sF : Same (tups H9) (tups (upd (upd H11 tt (.tup [V.str z, V.str ("link" : Str), oV (some tg), oV (some ru)])) cl (.lst (ys ++ [V.ref tt])))) :=
                  (tups_same s10).trans ((tups_keep k11 (p9.same s10)).trans ((tups_same s12).trans (tups_lst (s12 _ _ hcl11))))
                rw [List.map_append]
                exact DpAll.app (DpAll.same sF _ _ dpX) (.cons (.tup (SqT.of (tups_at (by rw [upd_ne ntc.symm]; exact upd_same))) (.cons (.str z) (.cons (.str _) (.cons (dp_oV _) (.cons (dp_oV _) .nil))))) .nil)
        · rintro σ H6 ⟨y4, y8, y9, y10, y11, cs, ys, rfl, k6, p6, hcl6, dp6, cok, hcs⟩
          have htl6 := k6 _ _ ntp htl3
          refine ⟨_, rfl, .inl ⟨rfl, _, SqL.of htl6⟩, _, rfl, _, rfl, by show 2 ≤ sizeLine; decide, fun tt htt => ?_⟩
          have s7 := same_upd (o := .tup [V.str nm, V.ref cl]) htt
          have ntt : tl ≠ tt := ne_of_none htl6 htt
          have npt : tt ≠ p := p6.ne htt
          have hxl := DpAll.len dp3
          have e1 : ts.length ≤ 5 := by
            have := congrArg List.length hts
            rw [List.length_map, List.length_take] at this
            omega
          rw [List.length_map] at hxl
          refine ⟨tl, _, _, rfl, rfl, s7 _ _ htl6, by rw [sizeLine_eq]; omega, ?_⟩
          refine ⟨_, _, _, _, _, _, _, ts ++ [(nm, cs)], xs ++ [.ref tt], rfl, ?_, ?_, ?_, upd_same, ?_, ?_, ?_⟩
          · exact fun b o nb q => by
              rw [upd_ne (ne_of_none q htl0)]
              exact s7 _ _ (k6 _ _ nb (k3 _ _ nb q))
          · obtain ⟨a, b, c, q, r⟩ := (p6.same s7).mono (show _ ≤ n + 11 + 40 * (i + 1) by omega)
            exact ⟨a, b, c, by rw [upd_ne ntp.symm]; exact q, r⟩
          · rw [upd_ne ntn]
            exact s7 _ _ (k6 _ _ nnp hnl3)
          · have sA : Same (less tl (less p H3)) (less tl (less p (upd (upd H6 tt (.tup [V.str nm, V.ref cl])) tl (.lst (xs ++ [V.ref tt]))))) := fun b o q => by
              obtain ⟨n1, q⟩ := less_some q
              obtain ⟨n2, q⟩ := less_some q
              rw [less_ne n1, less_ne n2, upd_ne n1]
              exact s7 _ _ (k6 _ _ n2 q)
            have sB : Same (tups H6) (less tl (less p (upd (upd H6 tt (.tup [V.str nm, V.ref cl])) tl (.lst (xs ++ [V.ref tt]))))) := fun b o q => by
              obtain ⟨zs, rfl, q2⟩ := tups_some q
              obtain ⟨_, _, _, ep, _⟩ := p6
              have n1 : b ≠ tl := ne_of q2 htl6 fun z => nomatch z
              have n2 : b ≠ p := ne_of q2 ep fun z => nomatch z
              rw [less_ne n1, less_ne n2, upd_ne n1]
              exact s7 _ _ q2
            rw [List.map_append]
            refine DpAll.app (DpAll.same sA _ _ dp3) (.cons (.tup (SqT.of ?_) (.cons (.str nm) (.cons (.lst (a := cl) (SqL.of ?_) (DpAll.same sB _ _ dp6)) .nil))) .nil)
            · rw [less_ne ntt.symm, less_ne npt, upd_ne ntt.symm]
              exact upd_same
            · rw [less_ne nct.symm, less_ne ncp, upd_ne nct.symm]
              exact s7 _ _ hcl6
          · rw [List.map_append, hts, List.take_add_one, hx2]
            rfl
          · intro t ht
            rcases List.mem_append.mp ht with z | z
            · exact hok t z
            · rw [List.mem_singleton.mp z]
              exact ⟨cok, by show cs.length ≤ wid; omega⟩
      · rintro σ H3 ⟨x4, x6, x7, x8, x9, x10, x11, ts, xs, rfl, k3, p3, hnl3, htl3, dp3, hts, hok⟩
        rw [List.length_map] at p3 hts
        rw [List.take_length] at hts
        refine ⟨_, rfl, kk _ tl ts k3 htl0 (p3.mono (by omega)) (.lst (SqL.of (by rw [less_ne ntp]; exact htl3)) (DpAll.same (less_same _ _) _ _ dp3)) ?_ fun t ht => (hok t ht).2⟩
        have e1 : ts.length = ns.length := by
          have := congrArg List.length hts
          rwa [List.length_map] at this
        refine ⟨by omega, by omega, by rw [hts]; exact nok.1, fun t ht => ?_⟩
        have hm : t.1 ∈ ns := by rw [← hts]; exact List.mem_map_of_mem (f := Prod.fst) ht
        refine ⟨(nok.2 _ hm).1, Nat.le_trans (hok t ht).2 hw6, (hok t ht).1.nd, ?_⟩
        rw [hts]
        exact (hok t ht).1.cols
end
end Ow

/-! the law's text, columns and moves -/
namespace Ow
open PySem PySem.Spec PyProof.Rows L2 TL
def tabD (t : Str) (u : Tab) : Option (List Col) := if u.1 = t then some u.2 else none
theorem tabD_some {t : Str} {cs : List Col} : ∀ {ts : List Tab}, tabAt ts t = some cs → ∃ r, ts.filterMap (tabD t) = cs :: r
  | [], h => by cases h
  | u :: ts, h => by
    by_cases e : u.1 = t
    · rw [tabAt_cons, if_pos e] at h
      cases h
      exact ⟨_, by rw [List.filterMap_cons]; unfold tabD; rw [if_pos e]⟩
    · rw [tabAt_cons, if_neg e] at h
      obtain ⟨r, er⟩ := tabD_some h
      exact ⟨r, by rw [List.filterMap_cons, er]; unfold tabD; rw [if_neg e]⟩
section
variable {P : Program} {w : World} {K : PySem.W.Frag} {mg : Str → Option Value} {base : Heap}
theorem sc_law_text : FnScope [("_law_tables_here" : Str), ("_law_lines" : Str), ("_law_name" : Str), ("_law_columns_here" : Str), ("_law_column" : Str), ("_law_kind" : Str), ("_law_target" : Str), ("_law_rule" : Str)] [("_law_tables_here" : Str)] (defScope s_law_text) := ⟨rfl, rfl, rfl, by decide +kernel, rfl, by decide +kernel, by decide +kernel⟩
theorem ok_text (D : TopD K mg "_law_text" s_law_text) (T : Blt mg) : FnAt P w K mg base "_law_text" [("_law_tables_here" : Str)] 1 (spText K) := by
  refine fn_at D sc_law_text (fun _ _ _ _ _ _ us hl => match us, hl with | [_], _ => rfl) (fun vs H Q E h => ?_) (fun f cdv A outer s H vs Q E hr h => ?_)
  · obtain ⟨l, ts, rfl, _⟩ := h
    rfl
  · obtain ⟨l, ts, rfl, hdp, ok, kk⟩ := h
    have hnm := ok.names
    obtain ⟨_, xs, el, hS, dpa⟩ := Dp.lst_inv hdp
    cases el
    have hxl := DpAll.len dpa
    rw [List.length_map] at hxl
    refine ⟨_, (pss_cons (ps_set (i := 1) sc_law_text.nd rfl (Or.inl rfl) (pe_lst pa_nil))
      (pss_cons (ps_for PassesOwn.never rfl (pi_list (pv 0)) (pg_tup rfl (pgs_cons (pg_name (i := 2) sc_law_text.nd rfl (Or.inl rfl)) (pgs_cons (pg_name (i := 3) sc_law_text.nd rfl (Or.inl rfl)) pgs_nil)))
      (pss_cons (ps_expr (pe_bm PySem.F.plainAttrs_list PySem.F.slot_list_append PySem.F.type_list_append mt_append (pv 1) (pa_cons (pe_op op_add_str pe_str (pv 2)) pa_nil)))
      (pss_one (ps_for PassesOwn.never rfl (pi_list (pv 3)) (pg_tup rfl (pgs_cons (pg_name (i := 4) sc_law_text.nd rfl (Or.inl rfl)) (pgs_cons (pg_name (i := 5) sc_law_text.nd rfl (Or.inl rfl)) (pgs_cons (pg_name (i := 6) sc_law_text.nd rfl (Or.inl rfl)) (pgs_cons (pg_name (i := 7) sc_law_text.nd rfl (Or.inl rfl)) pgs_nil)))))
      (pss_one (ps_expr (pe_bm PySem.F.plainAttrs_list PySem.F.slot_list_append PySem.F.type_list_append mt_append (pv 1) (pa_cons (pe_op op_add_str (pe_op op_add_str (pe_op op_add_str (pv 5) pe_str) (pv 4)) (pe_ifExp (pt_cmpR op_eq (pv 5) pe_str (nomark _)) (pe_op op_add_str (pe_op op_add_str (pe_op op_add_str pe_str (pv 6)) pe_str) (pv 7)) pe_str)) pa_nil))))))))
      (pss_one (ps_ret (pe_join pe_str (pv 1)))))), ?_⟩
    refine ⟨by show 0 ≤ sizeLine; decide, fun q hq => ?_⟩
    have s0 := same_upd (o := .lst []) hq
    refine ⟨_, rfl, l, rfl, ⟨_, s0.seq hS⟩, ?_⟩
    refine for_list (K := K) (a := l) (xs := xs) (fun i σ H' => ∃ (x2 x3 x4 x5 x6 x7 : Option V), σ = [some (.ref l), some (.ref q), x2, x3, x4, x5, x6, x7] ∧ Same H H' ∧ H' q = some (.lst ((linesOf (ts.take i)).map V.str)))
      ⟨_, _, _, _, _, _, rfl, s0, upd_same⟩ (fun i σ H' _ ⟨_, _, _, _, _, _, _, s1, _⟩ => s1.seq hS) ?_ ?_
    · rintro i x σ H1 hx ⟨x2, x3, x4, x5, x6, x7, rfl, s1, hq1⟩
      obtain ⟨t, ht, hdt⟩ := dp_at dpa hx
      obtain ⟨a, cl, rfl, hat, hcd⟩ := dTab_inv hdt
      obtain ⟨_, ys, ec, hcS, dpc⟩ := Dp.lst_inv hcd
      cases ec
      have hyl := DpAll.len dpc
      rw [List.length_map] at hyl
      have tok := ok.tab t (List.mem_of_getElem? ht)
      have hi : i < ts.length := (List.getElem?_eq_some_iff.mp ht).1
      have h8 := (isW_len tok.w).2
      have few := ok.few
      have l7 := lines_len (ts := ts.take i) fun u hu => (ok.tab u (List.mem_of_mem_take hu)).few
      rw [List.length_take] at l7
      refine ⟨a, _, rfl, Same.sqT s1 hat, rfl, _, _, rfl, _, _, rfl, rfl, ?_⟩
      have e6 : (("table " : Str)).length = 6 := by decide +kernel
      refine ⟨_, rfl, .inl ⟨rfl, _, SqL.of hq1⟩, _, rfl, _, _, rfl, rfl, by rw [e6, sizeLine_eq]; omega, q, _, _, rfl, rfl, hq1, by rw [List.length_map, sizeLine_eq]; omega, ?_⟩
      have s2 : Same H (upd H1 q (.lst ((linesOf (ts.take i)).map V.str ++ [V.str (("table " : Str) ++ t.1)]))) := fun b o e => by rw [upd_ne (ne_of_none e hq)]; exact s1 _ _ e
      refine ⟨_, rfl, cl, rfl, ⟨_, s2.seq hcS⟩, ?_⟩
      refine for_list (K := K) (a := cl) (xs := ys) (fun j σ H' => ∃ (x4 x5 x6 x7 : Option V), σ = [some (.ref l), some (.ref q), some (.str t.1), some (.ref cl), x4, x5, x6, x7] ∧ Same H H' ∧ H' q = some (.lst ((linesOf (ts.take i) ++ (("table " : Str) ++ t.1) :: (t.2.take j).map lnC).map V.str)))
        ⟨_, _, _, _, rfl, s2, by rw [upd_same, List.take_zero, List.map_append] <;> rfl⟩ (fun j σ H' _ ⟨_, _, _, _, _, s3, _⟩ => s3.seq hcS) ?_ ?_
      · rintro j y σ H3 hy ⟨x4, x5, x6, x7, rfl, s3, hq3⟩
        obtain ⟨c, hc, hdc⟩ := dp_at dpc hy
        obtain ⟨ac, rfl, hac⟩ := dCol_inv hdc
        have hj : j < t.2.length := (List.getElem?_eq_some_iff.mp hc).1
        have co := tok.cols c (List.mem_of_getElem? hc)
        obtain ⟨l1, l2, l3, l4⟩ := co.lens hnm
        have e1 : ((" " : Str)).length = 1 := by decide +kernel
        have f6 := tok.few
        have fin : ∀ H4 x6' x7', Same H H4 → H4 q = some (.lst ((linesOf (ts.take i) ++ (("table " : Str) ++ t.1) :: (t.2.take j).map lnC).map V.str)) → ∃ (x4 x5 x6 x7 : Option V), ([some (V.ref l), some (.ref q), some (.str t.1), some (.ref cl), some (.str c.name), some (.str c.kind), x6', x7'] : L2.St) = [some (.ref l), some (.ref q), some (.str t.1), some (.ref cl), x4, x5, x6, x7] ∧
            Same H (upd H4 q (.lst ((linesOf (ts.take i) ++ (("table " : Str) ++ t.1) :: (t.2.take j).map lnC).map V.str ++ [V.str (lnC c)]))) ∧ upd H4 q (.lst ((linesOf (ts.take i) ++ (("table " : Str) ++ t.1) :: (t.2.take j).map lnC).map V.str ++ [V.str (lnC c)])) q = some (.lst ((linesOf (ts.take i) ++ (("table " : Str) ++ t.1) :: (t.2.take (j + 1)).map lnC).map V.str)) := fun H4 x6' x7' s4 h4 => by
          refine ⟨_, _, _, _, rfl, fun b o e => by rw [upd_ne (ne_of_none e hq)]; exact s4 _ _ e, ?_⟩
          rw [upd_same, List.take_add_one, hc]
          simp
        have hsz : ((linesOf (ts.take i) ++ (("table " : Str) ++ t.1) :: (t.2.take j).map lnC).map V.str).length < sizeLine := by
          rw [List.length_map, List.length_append, List.length_cons, List.length_map, List.length_take, sizeLine_eq]
          omega
        refine ⟨ac, _, rfl, Same.sqT s3 hac, rfl, _, _, rfl, _, _, rfl, _, _, rfl, _, _, rfl, rfl, ?_⟩
        refine ⟨_, rfl, .inl ⟨rfl, _, SqL.of hq3⟩, _, rfl, _, _, rfl, rfl, by rw [e1, sizeLine_eq]; omega, _, rfl, _, _, rfl, rfl, by rw [len_app, e1, sizeLine_eq]; omega, _, rfl, rfl, _, rfl, ?_⟩
        rcases co.k with ⟨ek, tg, ru, e2, e3, h4, h5⟩ | ⟨ek, e2, e3⟩
        · rw [e2] at l3
          rw [e3] at l4
          have l3 : tg.length ≤ 8 := l3
          have l4 : ru.length ≤ 8 := l4
          refine ite2 (fun _ => ?_) (fun z => absurd (decide_eq_true (by rw [ek])) z)
          rw [e2, e3]
          refine ⟨_, rfl, _, _, rfl, rfl, by rw [e1, sizeLine_eq]; omega, _, _, rfl, rfl, by rw [len_app, e1, sizeLine_eq]; omega, _, rfl, _, _, rfl, rfl, by rw [len_app, len_app, e1, sizeLine_eq]; omega, _, _, rfl, rfl, by rw [len_app, len_app, len_app, len_app, len_app, e1, sizeLine_eq]; omega, ?_⟩
          refine ⟨q, _, _, rfl, rfl, hq3, hsz, ?_⟩
          have e : lnC c = c.kind ++ (" " : Str) ++ c.name ++ ((" " : Str) ++ tg ++ (" " : Str) ++ ru) := by
            unfold lnC
            rw [if_pos ek, e2, e3]
            rfl
          have q2 := fin H3 (some (oV (some tg))) (some (oV (some ru))) s3 hq3
          rw [e] at q2
          exact q2
        · refine ite2 (fun z => ?_) (fun _ => ?_)
          · have z : V.str c.kind = V.str ("link" : Str) := of_decide_eq_true z
            injection z with z
            rcases ek with e | e <;> rw [e] at z <;> exact absurd z (by decide)
          refine ⟨_, _, rfl, rfl, ?_, ?_⟩
          · have e0 : (("" : Str)).length = 0 := by decide +kernel
            rw [len_app, len_app, e1, e0, sizeLine_eq]
            omega
          refine ⟨q, _, _, rfl, rfl, hq3, hsz, ?_⟩
          have e : lnC c = c.kind ++ (" " : Str) ++ c.name ++ ("" : Str) := by
            unfold lnC
            rw [if_neg]
            rcases ek with e | e <;> rw [e] <;> decide
          have q2 := fin H3 (some (oV c.tgt)) (some (oV c.rule)) s3 hq3
          rw [e] at q2
          exact q2
      · rintro σ H3 ⟨x4, x5, x6, x7, rfl, s3, hq3⟩
        rw [hyl, List.take_length] at hq3
        refine ⟨_, _, _, _, _, _, rfl, s3, ?_⟩
        rw [lines_take ht]
        exact hq3
    · rintro σ H1 ⟨x2, x3, x4, x5, x6, x7, rfl, s1, hq1⟩
      rw [hxl, List.take_length] at hq1
      have b2 := sum_le fun z hz => (line_ok ok z hz).1
      have b3 := lines_len fun t ht => (ok.tab t ht).few
      have b4 := ok.few
      exact ⟨⟨_, rfl⟩, _, rfl, _, q, _, rfl, rfl, .inl (SqL.of hq1), by rw [nl1]; omega, kk _ s1⟩
theorem sc_law_columns : FnScope [("_law_tables_here" : Str), ("_law_table" : Str), ("_law_name" : Str), ("_law_columns_here" : Str)] [("_law_tables_here" : Str), ("_law_table" : Str)] (defScope s_law_columns) := ⟨rfl, rfl, rfl, by decide +kernel, rfl, by decide +kernel, by decide +kernel⟩
theorem ok_cols (D : TopD K mg "_law_columns" s_law_columns) (T : Blt mg) : FnAt P w K mg base "_law_columns" [("_law_tables_here" : Str), ("_law_table" : Str)] 1 (spCols K) := by
  refine fn_at D sc_law_columns (fun _ _ _ _ _ _ us hl => match us, hl with | [_, _], _ => rfl) (fun vs H Q E h => ?_) (fun f cdv A outer s H vs Q E hr h => ?_)
  · obtain ⟨l, t, ts, cs, B, rfl, _⟩ := h
    rfl
  · obtain ⟨l, t, ts, cs, G, rfl, sG, hdp, ok, hat, kk⟩ := h
    refine ⟨_, (pss_one (ps_ret (pe_ix ix_list (pe_lc (own := [(("_law_name" : Str), 2), (("_law_columns_here" : Str), 3)]) (by rfl) sc_law_columns.nd (pi_list (pv 0)) (blkOk_by (own := [(("_law_name" : Str), 2), (("_law_columns_here" : Str), 3)]) (N := [("_law_tables_here" : Str), ("_law_table" : Str), ("_law_name" : Str), ("_law_columns_here" : Str)]) (sc := defScope s_law_columns) (by decide +kernel)) (fun _ _ _ _ _ => pg_tupK (K := K) (n := 2) rfl (pgs_cons (pg_name (i := 2) sc_law_columns.nd rfl (Or.inl rfl)) (pgs_cons (pg_name (i := 3) sc_law_columns.nd rfl (Or.inl rfl)) pgs_nil))) (fun _ _ _ _ _ => pts_one (pt_cmpR op_eq (pv 2) (pv 1) (nomark _))) (fun _ _ _ _ _ => (pv 3))) pe_int (fun _ _ => rfl)))), ?_⟩
    obtain ⟨_, xs, el, hS, dpa⟩ := Dp.lst_inv hdp
    cases el
    have few := ok.few
    refine ⟨_, rfl, l, rfl, ⟨_, sG.seq hS⟩, fun L hL => ?_⟩
    refine lc_rel (K := K) (l := ts) (R0 := fun v u => Dp K G v (dTab u)) (fun v (d : List Col) => Dp K G v (.list (d.map dCol))) (tabD t) hL (sG.seq hS) (paired_of dpa) ?_ ?_
    · intro i v u H' hv hx hd P
      obtain ⟨a, cl, rfl, hat, hcd⟩ := dTab_inv hd
      refine ⟨a, _, rfl, Same.sqT (sG.trans P.same) hat, rfl, _, _, rfl, _, _, rfl, rfl, ?_⟩
      refine ⟨rfl, _, rfl, _, rfl, rfl, _, rfl, ?_⟩
      by_cases e : u.1 = t
      · rw [decide_eq_true (by rw [e])]
        exact iteT ⟨_, rfl, P.step (by omega) (Same.refl _) hx (if_pos e) hcd hL⟩
      · rw [decide_eq_false (fun z => e (by injection z))]
        exact iteF (P.skip (Same.refl _) hx (if_neg e))
    intro H1 ys s1 h1 d1
    obtain ⟨r, er⟩ := tabD_some hat
    rw [er] at d1
    cases d1 with
    | cons c1 c2 =>
      obtain ⟨c, cx, rfl, _⟩ := Dp.lst_inv c1
      exact ⟨L, _, _, _, rfl, rfl, SqL.of h1, atI_nat (j := 0) rfl, kk _ c s1 c1⟩
theorem sc_law_moves : FnScope [("_law_tables_here" : Str), ("_law_table" : Str), ("_law_found" : Str), ("_law_column" : Str), ("_law_kind" : Str), ("_law_target" : Str), ("_law_rule" : Str), ("_law_name" : Str), ("_law_columns_here" : Str)] [("_law_tables_here" : Str), ("_law_table" : Str)] (defScope s_law_moves) := ⟨rfl, rfl, rfl, by decide +kernel, rfl, by decide +kernel, by decide +kernel⟩
theorem ok_mvs (D : TopD K mg "_law_moves" s_law_moves) (T : Blt mg) (F_cols : FnAt P w K mg base "_law_columns" [("_law_tables_here" : Str), ("_law_table" : Str)] 1 (spCols K)) : FnAt P w K mg base "_law_moves" [("_law_tables_here" : Str), ("_law_table" : Str)] 2 (spMvs K) := by
  refine fn_at D sc_law_moves (fun _ _ _ _ _ _ us hl => match us, hl with | [_, _], _ => rfl) (fun vs H Q E h => ?_) (fun f cdv A outer s H vs Q E hr h => ?_)
  · obtain ⟨l, t, ts, cs, rfl, _⟩ := h
    rfl
  · obtain ⟨l, t, ts, cs, rfl, hdp, ok, hat, kk⟩ := h
    refine ⟨_, (pss_cons (ps_set (i := 2) sc_law_moves.nd rfl (Or.inl rfl) (pe_lst pa_nil))
      (pss_cons (ps_for PassesOwn.never rfl (pi_list (pe_fn F_cols (hr.mono (by decide)) (by rfl) (pa_cons (pv 0) (pa_cons (pv 1) pa_nil)))) (pg_tup rfl (pgs_cons (pg_name (i := 3) sc_law_moves.nd rfl (Or.inl rfl)) (pgs_cons (pg_name (i := 4) sc_law_moves.nd rfl (Or.inl rfl)) (pgs_cons (pg_name (i := 5) sc_law_moves.nd rfl (Or.inl rfl)) (pgs_cons (pg_name (i := 6) sc_law_moves.nd rfl (Or.inl rfl)) pgs_nil)))))
      (pss_one (ps_if (pt_cmpR op_eq (pv 4) pe_str (nomark _))
      (pss_one (ps_expr (pe_bm PySem.F.plainAttrs_list PySem.F.slot_list_append PySem.F.type_list_append mt_append (pv 2) (pa_cons (pe_tup (pa_cons (pv 3) (pa_cons (pv 5) (pa_cons pe_bl (pa_cons (pv 3) pa_nil))))) pa_nil))))
      pss_nil)))
      (pss_cons (ps_for PassesOwn.never rfl (pi_list (pv 0)) (pg_tup rfl (pgs_cons (pg_name (i := 7) sc_law_moves.nd rfl (Or.inl rfl)) (pgs_cons (pg_name (i := 8) sc_law_moves.nd rfl (Or.inl rfl)) pgs_nil)))
      (pss_one (ps_for PassesOwn.never rfl (pi_list (pv 8)) (pg_tup rfl (pgs_cons (pg_name (i := 3) sc_law_moves.nd rfl (Or.inl rfl)) (pgs_cons (pg_name (i := 4) sc_law_moves.nd rfl (Or.inl rfl)) (pgs_cons (pg_name (i := 5) sc_law_moves.nd rfl (Or.inl rfl)) (pgs_cons (pg_name (i := 6) sc_law_moves.nd rfl (Or.inl rfl)) pgs_nil)))))
      (pss_one (ps_if (PW.pt (pw_and (pt_cmpR op_eq (pv 4) pe_str (nomark _)) (pw_and1 (pt_cmpR op_eq (pv 5) (pv 1) (nomark _)))))
      (pss_one (ps_expr (pe_bm PySem.F.plainAttrs_list PySem.F.slot_list_append PySem.F.type_list_append mt_append (pv 2) (pa_cons (pe_tup (pa_cons (pe_op op_add_str (pe_op op_add_str (pe_op op_add_str pe_str (pv 7)) pe_str) (pv 3)) (pa_cons (pv 7) (pa_cons pe_bl (pa_cons (pv 3) pa_nil))))) pa_nil))))
      pss_nil)))))
      (pss_one (ps_ret (pv 2)))))), ?_⟩
    obtain ⟨_, xs, el, hS, dpa⟩ := Dp.lst_inv hdp
    cases el
    have hxl := DpAll.len dpa
    rw [List.length_map] at hxl
    have tok := ok.tab _ (tabAt_mem hat)
    have hnm := ok.names
    have few := ok.few
    have tw : isW t = true := tok.w
    refine ⟨by show 0 ≤ sizeLine; decide, fun q hq => ?_⟩
    have s0 := same_upd (o := .lst []) hq
    have h0 : upd H q (.lst []) q = some (.lst []) := upd_same
    refine ⟨_, rfl, _, rfl, l, t, ts, cs, H, rfl, s0, hdp, ok, hat, fun H1 cl s1 hcd => ?_⟩
    obtain ⟨_, ys, ec, hcS, dpc⟩ := Dp.lst_inv hcd
    cases ec
    have hyl := DpAll.len dpc
    rw [List.length_map] at hyl
    have s01 := s0.trans s1
    refine ⟨cl, rfl, ⟨_, s01.seq hcS⟩, ?_⟩
    refine for_list (K := K) (a := cl) (xs := ys) (fun i σ H' => ∃ (x3 x4 x5 x6 : Option V) (zs : List V), σ = [some (.ref l), some (.str t), some (.ref q), x3, x4, x5, x6, none, none] ∧ Same H H' ∧ H' q = some (.lst zs) ∧ DpAll K (tups H') zs ((((cs.take i).filter isL).map mvF).map dMove))
      ⟨_, _, _, _, [], rfl, s01, s1 _ _ h0, .nil⟩ (fun i σ H' _ ⟨_, _, _, _, _, _, s', _⟩ => s'.seq hcS) ?_ ?_
    · rintro i v σ H2 hv ⟨x3, x4, x5, x6, zs, rfl, s2, hq2, dz⟩
      obtain ⟨c, hc, hdc⟩ := dp_at dpc hv
      obtain ⟨ac, rfl, hac⟩ := dCol_inv hdc
      have hi : i < cs.length := (List.getElem?_eq_some_iff.mp hc).1
      have co := tok.cols c (List.mem_of_getElem? hc)
      have f6 : cs.length ≤ 6 := tok.few
      have hzl := DpAll.len dz
      rw [List.length_map, List.length_map] at hzl
      have hfl := List.length_filter_le isL (cs.take i)
      rw [List.length_take] at hfl
      refine ⟨ac, _, rfl, Same.sqT s2 hac, rfl, _, _, rfl, _, _, rfl, _, _, rfl, _, _, rfl, rfl, ?_⟩
      refine ⟨_, rfl, rfl, _, rfl, ?_⟩
      show if decide (V.str c.kind = V.str ("link" : Str)) = true then _ else _
      rw [dec_str]
      have etk : (cs.take (i + 1)).filter isL = (cs.take i).filter isL ++ (if isL c = true then [c] else []) := by
        rw [List.take_add_one, hc, List.filter_append]
        congr 1
        show List.filter isL [c] = _
        rw [List.filter_cons]
        split <;> rfl
      by_cases hk : c.kind = ("link" : Str)
      · rw [decide_eq_true hk]
        have hl : isL c = true := decide_eq_true hk
        obtain ⟨tg, htg⟩ : ∃ tg, c.tgt = some tg := by
          rcases co.k with ⟨_, t', r', k1, _⟩ | ⟨k1, _⟩
          · exact ⟨t', k1⟩
          · rcases k1 with z | z <;> rw [z] at hk <;> exact absurd hk (by decide)
        refine iteT ?_
        refine ⟨_, rfl, .inl ⟨rfl, _, SqL.of hq2⟩, _, rfl, _, rfl, _, rfl, by show 4 ≤ sizeLine; decide, fun tt htt => ?_⟩
        have s3 := same_upd (o := .tup [V.str c.name, oV c.tgt, V.bl false, V.str c.name]) htt
        have nq : q ≠ tt := ne_of_none hq2 htt
        refine ⟨q, _, _, rfl, rfl, s3 _ _ hq2, by rw [sizeLine_eq]; omega, ?_⟩
        refine ⟨_, _, _, _, zs ++ [.ref tt], rfl, fun b o e => ?_, upd_same, ?_⟩
        · rw [upd_ne (ne_of_none e hq)]
          exact s3 _ _ (s2 _ _ e)
        · rw [etk, if_pos hl, List.map_append, List.map_append]
          refine DpAll.app (DpAll.same ((tups_same s3).trans (tups_lst (s3 _ _ hq2))) _ _ dz) (.cons (.tup (SqT.of (tups_at (by rw [upd_ne nq.symm]; exact upd_same))) ?_) .nil)
          rw [htg]
          exact .cons (.str _) (.cons (by show Dp _ _ _ (.str (oS c.tgt)); rw [htg]; exact .str _) (.cons (.bl _) (.cons (.str _) .nil)))
      · rw [decide_eq_false hk]
        have hl : ¬ isL c = true := fun z => hk (of_decide_eq_true z)
        refine iteF ?_
        refine ⟨_, _, _, _, zs, rfl, s2, hq2, ?_⟩
        rw [etk, if_neg hl, List.append_nil]
        exact dz
    · rintro σ H2 ⟨x3, x4, x5, x6, zs, rfl, s2, hq2, dz⟩
      rw [hyl, List.take_length] at dz
      refine ⟨_, rfl, l, rfl, ⟨_, s2.seq hS⟩, ?_⟩
      refine for_list (K := K) (a := l) (xs := xs) (fun i σ H' => ∃ (x3 x4 x5 x6 x7 x8 : Option V) (zs : List V), σ = [some (.ref l), some (.str t), some (.ref q), x3, x4, x5, x6, x7, x8] ∧ Same H H' ∧ H' q = some (.lst zs) ∧ DpAll K (tups H') zs (((cs.filter isL).map mvF ++ (ts.take i).flatMap fun u => (u.2.filter (lkTo t)).map (mvB u.1)).map dMove) ∧ zs.length ≤ 6 + 6 * i)
        ⟨_, _, _, _, _, _, zs, rfl, s2, hq2, by rw [List.take_zero]; show DpAll K _ _ (((cs.filter isL).map mvF ++ []).map dMove); rw [List.append_nil]; exact dz, ?_⟩ (fun i σ H' _ ⟨_, _, _, _, _, _, _, _, s', _⟩ => s'.seq hS) ?_ ?_
      · have a1 := DpAll.len dz
        rw [List.length_map, List.length_map] at a1
        have a2 := List.length_filter_le isL cs
        have a3 : cs.length ≤ 6 := tok.few
        omega
      · rintro i v σ H3 hv ⟨x3, x4, x5, x6, x7, x8, zs, rfl, s3, hq3, dz, zl⟩
        obtain ⟨u, hu, hdu⟩ := dp_at dpa hv
        obtain ⟨a, dl, rfl, hau, hud⟩ := dTab_inv hdu
        obtain ⟨_, ys2, ec2, hcS2, dpc2⟩ := Dp.lst_inv hud
        cases ec2
        have hyl2 := DpAll.len dpc2
        rw [List.length_map] at hyl2
        have uok := ok.tab u (List.mem_of_getElem? hu)
        have hiu : i < ts.length := (List.getElem?_eq_some_iff.mp hu).1
        have u8 := (isW_len uok.w).2
        refine ⟨a, _, rfl, Same.sqT s3 hau, rfl, _, _, rfl, _, _, rfl, rfl, ?_⟩
        refine ⟨_, rfl, dl, rfl, ⟨_, s3.seq hcS2⟩, ?_⟩
        refine for_list (K := K) (a := dl) (xs := ys2) (fun j σ H' => ∃ (x3 x4 x5 x6 : Option V) (zs : List V), σ = [some (.ref l), some (.str t), some (.ref q), x3, x4, x5, x6, some (.str u.1), some (.ref dl)] ∧ Same H H' ∧ H' q = some (.lst zs) ∧ DpAll K (tups H') zs (((cs.filter isL).map mvF ++ (((ts.take i).flatMap fun u => (u.2.filter (lkTo t)).map (mvB u.1)) ++ ((u.2.take j).filter (lkTo t)).map (mvB u.1))).map dMove) ∧ zs.length ≤ 6 + 6 * i + j)
          ⟨_, _, _, _, zs, rfl, s3, hq3, by rw [List.take_zero]; show DpAll K _ _ (((cs.filter isL).map mvF ++ (_ ++ [])).map dMove); rw [List.append_nil]; exact dz, zl⟩ (fun j σ H' _ ⟨_, _, _, _, _, _, s', _⟩ => s'.seq hcS2) ?_ ?_
        · rintro j v2 σ H4 hv2 ⟨x3, x4, x5, x6, zs, rfl, s4, hq4, dz4, zl4⟩
          obtain ⟨c, hc, hdc⟩ := dp_at dpc2 hv2
          obtain ⟨ac, rfl, hac⟩ := dCol_inv hdc
          have hj : j < u.2.length := (List.getElem?_eq_some_iff.mp hc).1
          have co := uok.cols c (List.mem_of_getElem? hc)
          have c8 := (isW_len co.w).2
          have f6 := uok.few
          refine ⟨ac, _, rfl, Same.sqT s4 hac, rfl, _, _, rfl, _, _, rfl, _, _, rfl, _, _, rfl, rfl, ?_⟩
          have etk : (u.2.take (j + 1)).filter (lkTo t) = (u.2.take j).filter (lkTo t) ++ (if lkTo t c = true then [c] else []) := by
            rw [List.take_add_one, hc, List.filter_append]
            congr 1
            show List.filter (lkTo t) [c] = _
            rw [List.filter_cons]
            split <;> rfl
          have no : ¬ lkTo t c = true → ∃ (x3 x4 x5 x6 : Option V) (zs : List V), [some (.ref l), some (.str t), some (.ref q), some (V.str c.name), some (V.str c.kind), some (oV c.tgt), some (oV c.rule), some (.str u.1), some (.ref dl)] = [some (.ref l), some (.str t), some (.ref q), x3, x4, x5, x6, some (.str u.1), some (.ref dl)] ∧ Same H H4 ∧ H4 q = some (.lst zs) ∧ DpAll K (tups H4) zs (((cs.filter isL).map mvF ++ (((ts.take i).flatMap fun u => (u.2.filter (lkTo t)).map (mvB u.1)) ++ ((u.2.take (j + 1)).filter (lkTo t)).map (mvB u.1))).map dMove) ∧ zs.length ≤ 6 + 6 * i + (j + 1) := fun hn => by
            refine ⟨_, _, _, _, zs, rfl, s4, hq4, ?_, by omega⟩
            rw [etk, if_neg hn, List.append_nil]
            exact dz4
          refine ⟨_, rfl, rfl, _, rfl, ?_⟩
          show if decide (V.str c.kind = V.str ("link" : Str)) = true then _ else _
          rw [dec_str]
          by_cases hk : c.kind = ("link" : Str)
          case neg =>
            rw [decide_eq_false hk]
            exact iteF (iteF (no fun z => hk (by unfold lkTo at z; rw [Bool.and_eq_true] at z; exact of_decide_eq_true z.1)))
          rw [decide_eq_true hk]
          refine iteT ?_
          refine ⟨_, rfl, _, rfl, by cases c.tgt <;> rfl, _, rfl, ?_⟩
          have eo : decide (oV c.tgt = V.str t) = decide (c.tgt = some t) := by
            cases c.tgt with
            | none => rfl
            | some y =>
              show decide (V.str y = V.str t) = decide (some y = some t)
              rw [dec_str]
              by_cases e : y = t
              · rw [e, decide_eq_true rfl, decide_eq_true rfl]
              · rw [decide_eq_false e, decide_eq_false fun z => e (by injection z)]
          show if decide (oV c.tgt = V.str t) = true then _ else _
          rw [eo]
          by_cases htg : c.tgt = some t
          case neg =>
            rw [decide_eq_false htg]
            exact iteF (no fun z => htg (by unfold lkTo at z; rw [Bool.and_eq_true] at z; exact of_decide_eq_true z.2))
          rw [decide_eq_true htg]
          refine iteT ?_
          have hl : lkTo t c = true := by unfold lkTo; rw [decide_eq_true hk, decide_eq_true htg]; rfl
          have e1 : (("~" : Str)).length = 1 := by decide +kernel
          have e2 : (("." : Str)).length = 1 := by decide +kernel
          refine ⟨_, rfl, .inl ⟨rfl, _, SqL.of hq4⟩, _, rfl, _, _, rfl, rfl, by rw [e1, sizeLine_eq]; omega, _, _, rfl, rfl, by rw [len_app, e1, e2, sizeLine_eq]; omega, _, rfl, _, _, rfl, rfl, by rw [len_app, len_app, e1, e2, sizeLine_eq]; omega, _, rfl, _, rfl, by show 4 ≤ sizeLine; decide, fun tt htt => ?_⟩
          have s5 := same_upd (o := .tup [V.str (("~" : Str) ++ u.1 ++ ("." : Str) ++ c.name), V.str u.1, V.bl true, V.str c.name]) htt
          have nq : q ≠ tt := ne_of_none hq4 htt
          refine ⟨q, _, _, rfl, rfl, s5 _ _ hq4, by rw [sizeLine_eq]; omega, ?_⟩
          refine ⟨_, _, _, _, zs ++ [.ref tt], rfl, fun b o e => ?_, upd_same, ?_, by rw [List.length_append]; simp; omega⟩
          · rw [upd_ne (ne_of_none e hq)]
            exact s5 _ _ (s4 _ _ e)
          · rw [etk, if_pos hl, List.map_append (l₁ := List.filter (lkTo t) _), ← List.append_assoc, ← List.append_assoc, List.map_append (l₂ := List.map (mvB u.1) [c])]
            rw [← List.append_assoc] at dz4
            exact DpAll.app (DpAll.same ((tups_same s5).trans (tups_lst (s5 _ _ hq4))) _ _ dz4) (.cons (.tup (SqT.of (tups_at (by rw [upd_ne nq.symm]; exact upd_same))) (.cons (.str _) (.cons (.str _) (.cons (.bl _) (.cons (.str _) .nil))))) .nil)
        · rintro σ H4 ⟨x3, x4, x5, x6, zs, rfl, s4, hq4, dz4, zl4⟩
          rw [hyl2, List.take_length] at dz4
          have f6 := uok.few
          refine ⟨_, _, _, _, _, _, zs, rfl, s4, hq4, ?_, by omega⟩
          rw [List.take_add_one, hu, List.flatMap_append]
          show DpAll K _ _ (((cs.filter isL).map mvF ++ (_ ++ List.flatMap _ [u])).map dMove)
          rw [List.flatMap_cons, List.flatMap_nil, List.append_nil]
          exact dz4
      · rintro σ H3 ⟨x3, x4, x5, x6, x7, x8, zs, rfl, s3, hq3, dz, zl⟩
        rw [hxl, List.take_length] at dz
        exact ⟨_, rfl, kk _ q zs s3 hq hq3 dz⟩
end
end Ow

/-! the law's ways: asked, way -/
namespace Ow
open PySem PySem.Spec PyProof.Rows L2 TL
def flD (c : Col) : Option Str := if c.kind = ("flag" : Str) then some c.name else none
theorem pick_sub {α : Type} : ∀ (l : List α) (bs : List Bool), ((l.zip bs).filterMap fun q => if q.2 = true then some q.1 else none).Sublist l
  | [], _ => by simp
  | _ :: _, [] => by simp
  | x :: l, b :: bs => by
    rw [List.zip_cons_cons, List.filterMap_cons]
    cases b with
    | true => exact (pick_sub l bs).cons₂ x
    | false => exact (pick_sub l bs).cons x
theorem flD_nodup {cs : List Col} (h : (cs.map Col.name).Nodup) : (cs.filterMap flD).Nodup := by
  refine List.Nodup.sublist ?_ h
  clear h
  induction cs with
  | nil => exact .slnil
  | cons c cs ih =>
    rw [List.filterMap_cons, List.map_cons]
    unfold flD
    split
    · rename_i e
      split at e
      · cases e
      · exact ih.cons _
    · rename_i e
      split at e
      · cases e
        exact ih.cons₂ _
      · cases e
section
variable {P : Program} {w : World} {K : PySem.W.Frag} {mg : Str → Option Value} {base : Heap}
theorem sc_law_asked : FnScope [("_law_pool_here" : Str), ("_law_tables_here" : Str), ("_law_table" : Str), ("_law_often" : Str), ("_law_flags" : Str), ("_law_column" : Str), ("_law_kind" : Str), ("_law_target" : Str), ("_law_rule" : Str), ("_law_picks" : Str), ("_law_flag" : Str), ("_law_pick" : Str)] [("_law_pool_here" : Str), ("_law_tables_here" : Str), ("_law_table" : Str), ("_law_often" : Str)] (defScope s_law_asked) := ⟨rfl, rfl, rfl, by decide +kernel, rfl, by decide +kernel, by decide +kernel⟩
theorem ok_ask (D : TopD K mg "_law_asked" s_law_asked) (T : Blt mg) (Y : WyC mg) (F_cols : FnAt P w K mg base "_law_columns" [("_law_tables_here" : Str), ("_law_table" : Str)] 1 (spCols K)) (F_draw : FnAt P w K mg base "_law_draw" [("_law_pool_here" : Str), ("_law_many" : Str)] 1 spDraw) : FnAt P w K mg base "_law_asked" [("_law_pool_here" : Str), ("_law_tables_here" : Str), ("_law_table" : Str), ("_law_often" : Str)] 2 (spAsk K) := by
  refine fn_at D sc_law_asked (fun _ _ _ _ _ _ us hl => match us, hl with | [_, _, _, _], _ => rfl) (fun vs H Q E h => ?_) (fun f cdv A outer s H vs Q E hr h => ?_)
  · obtain ⟨p, l, t, o, n, ts, cs, rfl, _⟩ := h
    rfl
  · obtain ⟨p, l, t, o, n, ts, cs, rfl, hp, hn, hdp, ok, hat, ho1, ho2, kk⟩ := h
    refine ⟨_, (pss_cons (ps_set (i := 4) sc_law_asked.nd rfl (Or.inl rfl) (pe_callB cr_sortedS (by rfl) Y.sorted (by decide +kernel) (pa_cons (pe_lc (own := [(("_law_column" : Str), 5), (("_law_kind" : Str), 6), (("_law_target" : Str), 7), (("_law_rule" : Str), 8)]) (by rfl) sc_law_asked.nd (pi_list (pe_fn F_cols (hr.mono (by decide)) (by rfl) (pa_cons (pv 1) (pa_cons (pv 2) pa_nil)))) (blkOk_by (own := [(("_law_column" : Str), 5), (("_law_kind" : Str), 6), (("_law_target" : Str), 7), (("_law_rule" : Str), 8)]) (N := [("_law_pool_here" : Str), ("_law_tables_here" : Str), ("_law_table" : Str), ("_law_often" : Str), ("_law_flags" : Str), ("_law_column" : Str), ("_law_kind" : Str), ("_law_target" : Str), ("_law_rule" : Str), ("_law_picks" : Str), ("_law_flag" : Str), ("_law_pick" : Str)]) (sc := defScope s_law_asked) (by decide +kernel)) (fun _ _ _ _ _ => pg_tupK (K := K) (n := 4) rfl (pgs_cons (pg_name (i := 5) sc_law_asked.nd rfl (Or.inl rfl)) (pgs_cons (pg_name (i := 6) sc_law_asked.nd rfl (Or.inl rfl)) (pgs_cons (pg_name (i := 7) sc_law_asked.nd rfl (Or.inl rfl)) (pgs_cons (pg_name (i := 8) sc_law_asked.nd rfl (Or.inl rfl)) pgs_nil))))) (fun _ _ _ _ _ => pts_one (pt_cmpR op_eq (pv 6) pe_str (nomark _))) (fun _ _ _ _ _ => (pv 5))) pa_nil)))
      (pss_cons (ps_setLc (i := 9) (own := [(("_law_flag" : Str), 10)]) (by rfl) sc_law_asked.nd rfl rfl (sw_true rfl rfl rfl (by decide +kernel)) (pi_list (pv 4)) (blkOk_by (own := [(("_law_flag" : Str), 10)]) (N := [("_law_pool_here" : Str), ("_law_tables_here" : Str), ("_law_table" : Str), ("_law_often" : Str), ("_law_flags" : Str), ("_law_column" : Str), ("_law_kind" : Str), ("_law_target" : Str), ("_law_rule" : Str), ("_law_picks" : Str), ("_law_flag" : Str), ("_law_pick" : Str)]) (sc := defScope s_law_asked) (by decide +kernel)) (fun _ _ _ _ _ => pg_name (i := 10) sc_law_asked.nd rfl (Or.inl rfl)) (fun _ _ _ _ _ => pts_nil) (fun _ _ _ _ _ => (pe_cmpR op_eq (pe_fn F_draw (hr.mono (by decide)) (by rfl) (pa_cons (pv 0) (pa_cons (pv 3) pa_nil))) pe_int (nomark _))))
      (pss_one (ps_ret (pe_lc (own := [(("_law_flag" : Str), 10), (("_law_pick" : Str), 11)]) (by rfl) sc_law_asked.nd (RZ.pi_zipA (by rfl) Y.zip (pa_cons (pv 4) (pa_cons (pv 9) pa_nil))) (blkOk_by (own := [(("_law_flag" : Str), 10), (("_law_pick" : Str), 11)]) (N := [("_law_pool_here" : Str), ("_law_tables_here" : Str), ("_law_table" : Str), ("_law_often" : Str), ("_law_flags" : Str), ("_law_column" : Str), ("_law_kind" : Str), ("_law_target" : Str), ("_law_rule" : Str), ("_law_picks" : Str), ("_law_flag" : Str), ("_law_pick" : Str)]) (sc := defScope s_law_asked) (by decide +kernel)) (fun _ _ _ _ _ => pg_tupK (K := K) (n := 2) rfl (pgs_cons (pg_name (i := 10) sc_law_asked.nd rfl (Or.inl rfl)) (pgs_cons (pg_name (i := 11) sc_law_asked.nd rfl (Or.inl rfl)) pgs_nil))) (fun _ _ _ _ _ => pts_one (pt_val (pv 11))) (fun _ _ _ _ _ => (pv 10))))))), ?_⟩
    have tok := ok.tab _ (tabAt_mem hat)
    have f6 : cs.length ≤ 6 := tok.few
    refine ⟨_, rfl, _, rfl, l, t, ts, cs, less p H, rfl, less_same p H, hdp, ok, hat, fun H1 cl s1 hcd => ?_⟩
    obtain ⟨_, ys, ec, hcS, dpc⟩ := Dp.lst_inv hcd
    cases ec
    have sl1 : Same (less p H) H1 := (less_same p H).trans s1
    refine ⟨cl, rfl, ⟨_, sl1.seq hcS⟩, fun L hL => ?_⟩
    refine lc_rel (K := K) (l := cs) (R0 := fun v c => Dp K (less p H) v (dCol c)) (fun v z => v = V.str z) flD hL (sl1.seq hcS) (paired_of dpc) ?_ ?_
    · intro i v c H' hv hx hd P
      obtain ⟨ac, rfl, hac⟩ := dCol_inv hd
      refine ⟨ac, _, rfl, Same.sqT (sl1.trans P.same) hac, rfl, _, _, rfl, _, _, rfl, _, _, rfl, _, _, rfl, rfl, ?_⟩
      refine ⟨rfl, _, rfl, rfl, _, rfl, ?_⟩
      show if decide (V.str c.kind = V.str ("flag" : Str)) = true then _ else _
      rw [dec_str]
      by_cases e : c.kind = ("flag" : Str)
      · rw [decide_eq_true e]
        exact iteT ⟨_, rfl, P.step (by omega) (Same.refl _) hx (if_pos e) rfl hL⟩
      · rw [decide_eq_false e]
        exact iteF (P.skip (Same.refl _) hx (if_neg e))
    intro H2 zs s2 h2 d2
    have ez := strs_of d2
    subst ez
    have hfl : (cs.filterMap flD).length ≤ 6 := Nat.le_trans (List.length_filterMap_le _ _) f6
    refine ⟨L, cs.filterMap flD, rfl, SqL.of h2, by omega, fun fs q pm so hq => ?_⟩
    generalize e3 : upd H2 q _ = H3
    have s3 := al_s e3 hq
    have h3 := al_v e3
    clear e3
    have s13 : Same H1 H3 := s2.trans s3
    have sH3 : Same H H3 := s1.trans s13
    have hp3 := hp.same sH3
    have nq : q ≠ p := (hp.same (s1.trans s2)).ne hq
    have fsl : fs.length ≤ 6 := by rw [pm.length_eq]; exact hfl
    have fok : ∀ gs : List Str, gs.Sublist fs → FlOk ts t gs := fun gs sb => by
      refine ⟨((sortedS_iff fs).mp so).sublist sb, ?_, fun f hf => ?_⟩
      · refine List.Nodup.sublist sb (pm.nodup_iff.mpr ?_)
        exact flD_nodup tok.nd
      · have hm := pm.mem_iff.mp (sb.subset hf)
        obtain ⟨c, hc, e⟩ := List.mem_filterMap.mp hm
        unfold flD at e
        split at e
        · rename_i hk
          cases e
          unfold isFl colIn
          rw [hat]
          show (match colAt cs c.name with | some c => _ | none => _) = true
          rw [colAt_nodup tok.nd hc]
          exact decide_eq_true hk
        · cases e
    refine ⟨_, rfl, q, rfl, ⟨_, SqL.of h3⟩, fun D hD => ?_⟩
    have hxl : (fs.map V.str).length = fs.length := List.length_map ..
    refine lc_it (walk_list (K := K) (a := q) (xs := fs.map V.str)) (fun i H' => ∃ bs : List Bool, H' D = some (.lst (bs.map V.bl)) ∧ Keep p H3 H' ∧ PoolAt H' p (n + i) ∧ bs.length = i) ⟨[], upd_same, Keep.of (same_upd hD), hp3.same (same_upd hD), rfl⟩ (fun i H' _ ⟨_, _, k', _⟩ => SqL.of (k' _ _ nq h3)) ?_ ?_
    · rintro i v H4 H5 hi ⟨bs, hD4, k4, p4, hbl⟩ ⟨rfl, hv⟩
      have b60 : (2 : Nat) ^ 50 + 100 < 2 ^ 60 := by decide
      have nD : D ≠ p := hp3.ne hD
      rw [hxl] at hi
      have o200 : (1000 : Nat) < 2 ^ 200 := by decide
      refine ⟨rfl, yes_ ⟨_, rfl, _, rfl, p, n + i, (o : Int), rfl, p4, by omega, by omega, by omega, fun H6 d k6 p6 d0 d1 => ⟨rfl, ?_⟩⟩⟩
      have hD6 := k6 _ _ nD hD4
      refine ⟨bs.map V.bl, hD6, by rw [List.length_map, sizeLine_eq]; omega, bs ++ [decide (V.int d = V.int 0)], ?_, ?_, ?_, by rw [List.length_append, hbl]; rfl⟩
      · rw [upd_same, List.map_append]
        rfl
      · exact fun b u nb e => by rw [upd_ne (ne_of_none e hD)]; exact k6 _ _ nb (k4 _ _ nb e)
      · obtain ⟨a, b, c, q1, r⟩ := p6
        exact ⟨a, b, c, by rw [upd_ne nD.symm]; exact q1, r⟩
    · rintro H4 ⟨bs, hD4, k4, p4, hbl⟩
      rw [hxl] at p4 hbl
      have h34 := k4 _ _ nq h3
      refine ⟨_, rfl, _, rfl, q, D, _, _, rfl, .inl ⟨SqL.of h34, SqL.of hD4, fun L2 hL2 => ?_⟩⟩
      refine lc_it (walk_zip (K := K) (a := q) (b := D) (xs := fs.map V.str) (ys := bs.map V.bl) (n := fs.length) (by rw [List.length_map, List.length_map]; omega))
        (fun i H' => H' L2 = some (.lst ((((fs.zip bs).take i).filterMap fun q => if q.2 = true then some q.1 else none).map V.str)) ∧ Same H4 H') ⟨upd_same, same_upd hL2⟩ (fun i H' _ ⟨_, s'⟩ => ⟨SqL.of (s' _ _ h34), SqL.of (s' _ _ hD4)⟩) ?_ ?_
      · rintro i v H5 H6 hi ⟨hL5, s5⟩ ⟨tp, xa, xb, rfl, htp, rfl, e1, e2⟩
        have e1 : (fs.map V.str)[i]? = some xa := e1
        have e2 : (bs.map V.bl)[i]? = some xb := e2
        rw [List.getElem?_map] at e1 e2
        obtain ⟨g, hg, rfl⟩ := Option.map_eq_some_iff.mp e1
        obtain ⟨b, hb, rfl⟩ := Option.map_eq_some_iff.mp e2
        have hz : (fs.zip bs)[i]? = some (g, b) := by rw [List.getElem?_zip_eq_some]; exact ⟨hg, hb⟩
        have s6 := s5.trans (same_upd (o := .tup [V.str g, V.bl b]) htp)
        have nL : L2 ≠ tp := ne_of_none hL5 htp
        have hL6 : upd H5 tp (.tup [V.str g, V.bl b]) L2 = some (.lst ((((fs.zip bs).take i).filterMap fun q => if q.2 = true then some q.1 else none).map V.str)) := by rw [upd_ne nL]; exact hL5
        have hsz : ((((fs.zip bs).take i).filterMap fun q => if q.2 = true then some q.1 else none).map V.str).length < sizeLine := by
          have a1 := List.length_filterMap_le (fun q : Str × Bool => if q.2 = true then some q.1 else none) ((fs.zip bs).take i)
          rw [List.length_take] at a1
          rw [List.length_map, sizeLine_eq]
          omega
        have etk : ((fs.zip bs).take (i + 1)).filterMap (fun q : Str × Bool => if q.2 = true then some q.1 else none) = ((fs.zip bs).take i).filterMap (fun q : Str × Bool => if q.2 = true then some q.1 else none) ++ (if b = true then [g] else []) := by
          rw [List.take_add_one, hz, List.filterMap_append]
          congr 1
          cases b <;> rfl
        refine ⟨tp, _, rfl, SqT.of upd_same, rfl, _, _, rfl, _, _, rfl, rfl, rfl, ?_⟩
        refine ⟨_, rfl, _, rfl, ?_⟩
        cases b with
        | true =>
          refine iteT ⟨_, rfl, _, hL6, hsz, ?_, fun b' o' e => ?_⟩
          · rw [upd_same, etk, if_pos rfl, List.map_append]
            rfl
          · rw [upd_ne (ne_of_none e hL2)]
            exact s6 _ _ e
        | false =>
          refine iteF ⟨?_, s6⟩
          rw [etk, if_neg (by simp), List.append_nil]
          exact hL6
      · rintro H5 ⟨hL5, s5⟩
        have ez : (fs.zip bs).take fs.length = fs.zip bs := List.take_of_length_le (by rw [List.length_zip]; omega)
        rw [ez] at hL5
        have kA : Keep p H H5 := (Keep.of sH3).trans (k4.trans (Keep.of s5))
        refine kk _ L2 _ kA ((p4.same s5).mono (by omega)) ?_ hL5 (fok _ (pick_sub fs bs))
        exact Keep.free ((Keep.of sH3).trans k4) hp p4 hL2
end
end Ow

/-! the law's ways: way -/
namespace Ow
open PySem PySem.Spec PyProof.Rows L2 TL
theorem dStp_inv {K : PySem.W.Frag} {H : Hp} {v : V} {e : Stp} (h : Dp K H v (dStp e)) : ∃ a l, v = .ref a ∧ SqT K H a [.str e.nm, .str e.tb, .bl e.bk, .str e.lk, .ref l] ∧ Dp K H (.ref l) (.list (e.fl.map .str)) := by
  obtain ⟨a, xs, e1, hs, ha⟩ := Dp.tup_inv h
  cases ha with
  | cons h1 h2 => cases h2 with
    | cons h2 h3 => cases h3 with
      | cons h3 h4 => cases h4 with
        | cons h4 h5 => cases h5 with
          | cons h5 h6 =>
            cases h6
            cases h1
            cases h2
            cases h3
            cases h4
            obtain ⟨l, ys, rfl, _⟩ := Dp.lst_inv h5
            exact ⟨a, l, e1, hs, h5⟩
theorem dMove_inv {K : PySem.W.Frag} {H : Hp} {v : V} {e : Stp} (h : Dp K H v (dMove e)) : ∃ a, v = .ref a ∧ SqT K H a [.str e.nm, .str e.tb, .bl e.bk, .str e.lk] := by
  obtain ⟨a, xs, e1, hs, ha⟩ := Dp.tup_inv h
  cases ha with
  | cons h1 h2 => cases h2 with
    | cons h2 h3 => cases h3 with
      | cons h3 h4 => cases h4 with
        | cons h4 h5 =>
          cases h5
          cases h1
          cases h2
          cases h3
          cases h4
          exact ⟨a, e1, hs⟩
theorem tab_some {ts : List Tab} {t : Str} (h : t ∈ ts.map Prod.fst) : ∃ cs, tabAt ts t = some cs := by
  cases e : tabAt ts t with
  | none => exact absurd h (tabAt_none.mp e)
  | some cs => exact ⟨cs, rfl⟩
theorem WayOk.facts {ts : List Tab} (ok : TabsOk ts) {es : List Stp} (w : WayOk ts es) : ∀ e ∈ es, e.tb ∈ ts.map Prod.fst ∧ NmF e.nm ∧ e.nm.length ≤ 18 ∧ (e.lk = ("" : Str) ∨ isW e.lk = true) ∧ FlOk ts e.tb e.fl := by
  induction w with
  | one h f =>
    intro e he
    rw [List.mem_singleton.mp he]
    have hw := ok.names _ h
    exact ⟨h, NmF.word hw, Nat.le_trans (isW_len hw).2 (by decide), .inl rfl, f⟩
  | more w' hl m f ih =>
    intro e he
    rcases List.mem_append.mp he with z | z
    · exact ih e z
    · rw [List.mem_singleton.mp z]
      obtain ⟨_, m2, m3, m4⟩ := readM_good ok m
      refine ⟨m3, m2, m4, .inr ?_, f⟩
      obtain ⟨c, ⟨_, _, h3, _⟩ | ⟨_, _, h3, _⟩⟩ := m
      · obtain ⟨_, _, _, _, hn, _, _, co⟩ := col_word ok h3
        rw [← hn]
        exact co.w
      · obtain ⟨_, _, _, _, hn, _, _, co⟩ := col_word ok h3
        rw [← hn]
        exact co.w
theorem nm_ok {z : Str} (h : NmF z) : PyData.strOk z = true := strOk_low fun c hc => by
  have := h c hc
  omega
theorem shp_mvs {ts : List Tab} (ok : TabsOk ts) {t : Str} {cs : List Col} (h : tabAt ts t = some cs) : SeqAt.shaped (.list ((mvs ts t cs).map dMove)) = true := by
  refine (Shp.lst (n := 1) fun d hd => ?_).shaped (by decide)
  obtain ⟨e, he, rfl⟩ := List.mem_map.mp hd
  have m := mvs_ok ok h he
  obtain ⟨_, m2, m3, _⟩ := readM_good ok m
  have hlk : isW e.lk = true := by
    obtain ⟨c, ⟨_, _, h3, _⟩ | ⟨_, _, h3, _⟩⟩ := m
    · obtain ⟨_, _, _, _, hn, _, _, co⟩ := col_word ok h3
      rw [← hn]
      exact co.w
    · obtain ⟨_, _, _, _, hn, _, _, co⟩ := col_word ok h3
      rw [← hn]
      exact co.w
  refine .tup fun d hd => ?_
  simp only [List.mem_cons, List.not_mem_nil, or_false] at hd
  rcases hd with rfl | rfl | rfl | rfl
  · exact .str (nm_ok m2)
  · exact .str (strOk_word (ok.names _ m3))
  · exact .bl _
  · exact .str (strOk_word hlk)
theorem mv_fl {ts : List Tab} {t : Str} {e : Stp} {fs : List Str} (h : MvOk ts t e) : MvOk ts t ⟨e.nm, e.tb, e.bk, e.lk, fs⟩ := h
theorem shp_nil' : SeqAt.shaped (.list []) = true := (Shp.lst (n := 0) (ds := []) (by simp)).shaped (by decide)
theorem mvs_len {ts : List Tab} (ok : TabsOk ts) {t : Str} {cs : List Col} (h : tabAt ts t = some cs) : (mvs ts t cs).length ≤ 1000 := by
  have f1 : cs.length ≤ 6 := (ok.tab _ (tabAt_mem h)).few
  have f2 := ok.few
  have f3 : ∀ us : List Tab, (∀ u ∈ us, u.2.length ≤ 6) → (us.flatMap fun u => (u.2.filter (lkTo t)).map (mvB u.1)).length ≤ 6 * us.length := by
    intro us
    induction us with
    | nil => intro _; simp
    | cons u us ih =>
      intro hu
      rw [List.flatMap_cons, List.length_append, List.length_map, List.length_cons]
      have a1 := ih fun v hv => hu v (List.mem_cons_of_mem _ hv)
      have a2 := List.length_filter_le (lkTo t) u.2
      have a3 := hu u (List.mem_cons_self ..)
      omega
  have f4 := f3 ts fun u hu => (ok.tab u hu).few
  have f5 := List.length_filter_le isL cs
  unfold mvs
  rw [List.length_append, List.length_map]
  omega
section
variable {P : Program} {w : World} {K : PySem.W.Frag} {mg : Str → Option Value} {base : Heap}
theorem sc_law_way : FnScope [("_law_pool_here" : Str), ("_law_tables_here" : Str), ("_law_start" : Str), ("_law_most" : Str), ("_law_often" : Str), ("_law_way_here" : Str), ("_law_k" : Str), ("_law_moves_here" : Str), ("_law_word_here" : Str), ("_law_table" : Str), ("_law_is_back" : Str), ("_law_link" : Str)] [("_law_pool_here" : Str), ("_law_tables_here" : Str), ("_law_start" : Str), ("_law_most" : Str), ("_law_often" : Str)] (defScope s_law_way) := ⟨rfl, rfl, rfl, by decide +kernel, rfl, by decide +kernel, by decide +kernel⟩
theorem ok_lway (D : TopD K mg "_law_way" s_law_way) (T : Blt mg) (F_ask : FnAt P w K mg base "_law_asked" [("_law_pool_here" : Str), ("_law_tables_here" : Str), ("_law_table" : Str), ("_law_often" : Str)] 2 (spAsk K)) (F_mvs : FnAt P w K mg base "_law_moves" [("_law_tables_here" : Str), ("_law_table" : Str)] 2 (spMvs K)) (F_draw : FnAt P w K mg base "_law_draw" [("_law_pool_here" : Str), ("_law_many" : Str)] 1 spDraw) (F_of : FnAt P w K mg base "_law_of" [("_law_pool_here" : Str), ("_law_some" : Str)] 2 (spOf K)) :
    FnAt P w K mg base "_law_way" [("_law_pool_here" : Str), ("_law_tables_here" : Str), ("_law_start" : Str), ("_law_most" : Str), ("_law_often" : Str)] 3 (spLway K) := by
  refine fn_at D sc_law_way (fun _ _ _ _ _ _ us hl => match us, hl with | [_, _, _, _, _], _ => rfl) (fun vs H Q E h => ?_) (fun f cdv A outer s H vs Q E hr h => ?_)
  · obtain ⟨p, l, st, m, o, n, ts, rfl, _⟩ := h
    rfl
  · obtain ⟨p, l, st, m, o, n, ts, rfl, hp, hn, hdp, ok, hst, hm, ho1, ho2, kk⟩ := h
    refine ⟨_, (pss_cons (ps_set (i := 5) sc_law_way.nd rfl (Or.inl rfl) (pe_lst (pa_cons (pe_tup (pa_cons (pv 2) (pa_cons (pv 2) (pa_cons pe_bl (pa_cons pe_str (pa_cons (pe_fn F_ask (hr.mono (by decide)) (by rfl) (pa_cons (pv 0) (pa_cons (pv 1) (pa_cons (pv 2) (pa_cons (pv 4) pa_nil))))) pa_nil)))))) pa_nil)))
      (pss_cons (ps_for PassesOwn.never rfl (pi_range1 rfl T.range (pa_cons (pe_fn F_draw (hr.mono (by decide)) (by rfl) (pa_cons (pv 0) (pa_cons (pe_op op_add (pv 3) pe_int) pa_nil))) pa_nil)) (pg_name (i := 6) sc_law_way.nd rfl (Or.inl rfl))
      (pss_cons (ps_set (i := 7) sc_law_way.nd rfl (Or.inl rfl) (pe_fn F_mvs (hr.mono (by decide)) (by rfl) (pa_cons (pv 1) (pa_cons (pe_ix ix_tup (pe_ix ix_list (pv 5) (pe_un un_neg pe_int) (fun _ _ => rfl)) pe_int (fun _ _ => rfl)) pa_nil))))
      (pss_one (ps_if (pt_cmpR (op_neD hr.units) (pv 7) (pe_lst pa_nil) (nomark _))
      (pss_cons (ps_asg (pe_fn F_of (hr.mono (by decide)) (by rfl) (pa_cons (pv 0) (pa_cons (pv 7) pa_nil))) (pg_tup rfl (pgs_cons (pg_name (i := 8) sc_law_way.nd rfl (Or.inl rfl)) (pgs_cons (pg_name (i := 9) sc_law_way.nd rfl (Or.inl rfl)) (pgs_cons (pg_name (i := 10) sc_law_way.nd rfl (Or.inl rfl)) (pgs_cons (pg_name (i := 11) sc_law_way.nd rfl (Or.inl rfl)) pgs_nil))))))
      (pss_one (ps_expr (pe_bm PySem.F.plainAttrs_list PySem.F.slot_list_append PySem.F.type_list_append mt_append (pv 5) (pa_cons (pe_tup (pa_cons (pv 8) (pa_cons (pv 9) (pa_cons (pv 10) (pa_cons (pv 11) (pa_cons (pe_fn F_ask (hr.mono (by decide)) (by rfl) (pa_cons (pv 0) (pa_cons (pv 1) (pa_cons (pv 9) (pa_cons (pv 4) pa_nil))))) pa_nil)))))) pa_nil)))))
      pss_nil))))
      (pss_one (ps_ret (pv 5))))), ?_⟩
    have b50 : (2 : Nat) ^ 40 + 2000 < 2 ^ 50 := by decide
    have b60 : (2 : Nat) ^ 50 < 2 ^ 60 := by decide
    have o200 : (1000 : Nat) < 2 ^ 200 := by decide
    obtain ⟨cs0, hat0⟩ := tab_some hst
    refine ⟨_, rfl, _, rfl, _, rfl, _, rfl, _, rfl, _, rfl, p, l, st, o, n, ts, cs0, rfl, hp, by omega, hdp, ok, hat0, ho1, ho2, fun H1 q1 fs k1 p1 hq1 h1 fok => ?_⟩
    refine ⟨by show 5 ≤ sizeLine; decide, fun t1 ht1 => ?_⟩
    generalize e2 : upd H1 t1 _ = H2
    have s2 := al_s e2 ht1
    have h2 := al_v e2
    clear e2
    refine ⟨by show 1 ≤ sizeLine; decide, fun wq hwq => ?_⟩
    generalize e3 : upd H2 wq _ = H3
    have s3 := al_s e3 hwq
    have h3 := al_v e3
    clear e3
    have s13 := s2.trans s3
    have p3 := p1.same s13
    have nwp : wq ≠ p := (p1.same s2).ne hwq
    have ntp : t1 ≠ p := p1.ne ht1
    have nqp : q1 ≠ p := hp.ne hq1
    have nqw : q1 ≠ wq := ne_of_none (s2 _ _ h1) hwq
    have ntw : t1 ≠ wq := ne_of_none h2 hwq
    have k3 : Keep p H H3 := k1.trans (Keep.of s13)
    have hwq0 : H wq = none := Keep.free (k1.trans (Keep.of s2)) hp (p1.same s2) hwq
    refine ⟨_, rfl, _, rfl, _, _, rfl, rfl, p, n + 6, (m : Int) + 1, rfl, p3, by omega, by omega, by omega, fun H4 d k4 p4 d0 d1 => ?_⟩
    refine ⟨_, rfl, by omega, by omega, ?_⟩
    have h4w := k4 _ _ nwp h3
    have dp4 : DpAll K (less wq (less p H4)) [V.ref t1] ([(⟨st, st, false, ("" : Str), fs⟩ : Stp)].map dStp) := by
      have g1 : less wq (less p H4) t1 = some (.tup [V.str st, V.str st, V.bl false, V.str ("" : Str), V.ref q1]) := by
        rw [less_ne ntw, less_ne ntp]
        exact k4 _ _ ntp (s3 _ _ h2)
      have g2 : less wq (less p H4) q1 = some (.lst (fs.map V.str)) := by
        rw [less_ne nqw, less_ne nqp]
        exact k4 _ _ nqp (s13 _ _ h1)
      exact .cons (.tup (SqT.of g1) (.cons (.str _) (.cons (.str _) (.cons (.bl _) (.cons (.str _) (.cons (.lst (SqL.of g2) (DpAll.strs _)) .nil)))))) .nil
    refine for_range (lo := 0) (fun i σ H' => ∃ (x6 x7 x8 x9 x10 x11 : Option V) (es : List Stp) (xs : List V), σ = [some (.ref p), some (.ref l), some (.str st), some (.int (m : Int)), some (.int (o : Int)), some (.ref wq), x6, x7, x8, x9, x10, x11] ∧ Keep p H H' ∧ PoolAt H' p (n + 7 + 8 * i) ∧ H' wq = some (.lst xs) ∧
        DpAll K (less wq (less p H')) xs (es.map dStp) ∧ WayOk ts es ∧ es.length ≤ i + 1)
      ⟨_, _, _, _, _, _, [⟨st, st, false, ("" : Str), fs⟩], [.ref t1], rfl, k3.trans k4, p4, h4w, dp4, .one hst fok, Nat.le_refl _⟩ ?_ ?_
    · rintro i σ H5 hi ⟨x6, x7, x8, x9, x10, x11, es, xs, rfl, k5, p5, h5, dp5, wok, hel⟩
      have hi2 : i < 13 := by omega
      obtain ⟨es1, la, rfl⟩ : ∃ es1 la, es = es1 ++ [la] := by
        rcases List.eq_nil_or_concat es with e | ⟨es1, la, e⟩
        · exact absurd e wok.ne
        · exact ⟨es1, la, by rw [e, List.concat_eq_append]⟩
      have hla : (es1 ++ [la]).getLast? = some la := by rw [List.getLast?_append]; rfl
      have fct := wok.facts ok
      obtain ⟨cs, hat⟩ := tab_some (fct la (List.mem_append_right _ (List.mem_cons_self ..))).1
      obtain ⟨xs1, xl, rfl, dl⟩ : ∃ xs1 xl, xs = xs1 ++ [xl] ∧ Dp K (less wq (less p H5)) xl (dStp la) := by
        rw [List.map_append] at dp5
        obtain ⟨xs1, xs2, e, d1, d2⟩ := DpAll.app_inv dp5
        cases d2 with
        | cons c1 c2 =>
          cases c2
          exact ⟨xs1, _, e, c1⟩
      obtain ⟨ta, tl', rfl, hta, _⟩ := dStp_inv dl
      have ss : Same (less wq (less p H5)) H5 := (less_same _ _).trans (less_same _ _)
      have hdp5 : Dp K H5 (.ref l) (dTabs ts) := (hdp.keep k5).full
      refine ⟨_, rfl, _, rfl, _, rfl, wq, _, _, _, rfl, rfl, SqL.of h5, atI_last _ _, ta, _, _, _, rfl, rfl, Same.sqT ss hta, atI_nat (j := 1) rfl, l, la.tb, ts, cs, rfl, hdp5, ok, hat, fun H6 mq ms s6 hmq h6 dm => ?_⟩
      have nmp : mq ≠ p := p5.ne hmq
      have k56 : Keep p H5 H6 := Keep.of s6
      have k6 := k5.trans k56
      have p6 := p5.same s6
      have h6w := s6 _ _ h5
      have dp6 : DpAll K (less wq (less p H6)) (xs1 ++ [V.ref ta]) ((es1 ++ [la]).map dStp) := DpAll.same (less_mono (less_mono s6)) _ _ dp5
      have hml := DpAll.len dm
      rw [List.length_map] at hml
      refine ⟨_, rfl, by show 0 ≤ sizeLine; decide, fun e0 he0 => ?_⟩
      generalize e7 : upd H6 e0 _ = H7
      have s7 := al_s e7 he0
      have h7 := al_v e7
      clear e7
      refine ⟨_, _, .lst (SqL.of (s7 _ _ h6)) (DpAll.same ((tups_in _).trans s7) _ _ dm), dp_lst h7 .nil, shp_mvs ok hat, shp_nil', _, rfl, ?_⟩
      have dp7 : DpAll K (less wq (less p H7)) (xs1 ++ [V.ref ta]) ((es1 ++ [la]).map dStp) := DpAll.same (less_mono (less_mono s7)) _ _ dp6
      cases hmv : mvs ts la.tb cs with
      | nil =>
        rw [List.map_nil, eqv_lst, eqvAll_nn]
        refine iteF ?_
        exact ⟨_, _, _, _, _, _, es1 ++ [la], xs1 ++ [.ref ta], rfl, k6.trans (Keep.of s7), (p6.same s7).mono (by omega), s7 _ _ h6w, dp7, wok, by omega⟩
      | cons m0 mr =>
        rw [List.map_cons, eqv_lst, eqvAll_cn]
        refine iteT ?_
        have hm0 : 0 < ms.length := by rw [hml, hmv]; simp
        have hm1 : ms.length ≤ 1000 := by
          rw [hml]
          exact mvs_len ok hat
        refine ⟨_, rfl, _, rfl, p, mq, _, ms, rfl, p6.same s7, by omega, SqL.of (s7 _ _ h6), nmp, hm0, hm1, fun H8 v k8 p8 hv => ?_⟩
        obtain ⟨j, hj, rfl⟩ := List.getElem_of_mem hv
        obtain ⟨e, he, hde⟩ := dp_at dm (List.getElem?_eq_getElem hj)
        obtain ⟨ea, eea, hea⟩ := dMove_inv hde
        have mok := mvs_ok ok hat (List.mem_of_getElem? he)
        obtain ⟨_, _, m3, _⟩ := readM_good ok mok
        obtain ⟨cs2, hat2⟩ := tab_some m3
        have k68 : Keep p H6 H8 := (Keep.of s7).trans k8
        have k08 := k6.trans k68
        have hea8 : SqT K H8 ea [.str e.nm, .str e.tb, .bl e.bk, .str e.lk] := Same.sqT ((tups_keep k68 p6).trans (tups_in _)) hea
        rw [eea]
        refine ⟨ea, _, rfl, hea8, rfl, _, _, rfl, _, _, rfl, _, _, rfl, _, _, rfl, rfl, ?_⟩
        have h8w := k68 _ _ nwp h6w
        refine ⟨_, rfl, .inl ⟨rfl, _, SqL.of h8w⟩, _, rfl, _, rfl, _, rfl, _, rfl, _, rfl, _, rfl, _, rfl, _, rfl, p, l, e.tb, o, _, ts, cs2, rfl, p8, by omega, hdp.keep k08, ok, hat2, ho1, ho2, fun H9 fq fs2 k9 p9 hfq h9 fok2 => ?_⟩
        refine ⟨by show 5 ≤ sizeLine; decide, fun tt htt => ?_⟩
        generalize e10 : upd H9 tt _ = H10
        have s10 := al_s e10 htt
        have h10 := al_v e10
        clear e10
        have k610 : Keep p H6 H10 := k68.trans (k9.trans (Keep.of s10))
        have h10w := k610 _ _ nwp h6w
        have xl : (xs1 ++ [V.ref ta]).length < sizeLine := by
          have := DpAll.len dp5
          rw [List.length_map] at this
          rw [sizeLine_eq]
          omega
        refine ⟨wq, _, _, rfl, rfl, h10w, xl, ?_⟩
        have nfp : fq ≠ p := p8.ne hfq
        have ntp2 : tt ≠ p := p9.ne htt
        have nfw : fq ≠ wq := (ne_of_none h8w hfq).symm
        have ntw2 : tt ≠ wq := (ne_of_none (k9 _ _ nwp h8w) htt).symm
        refine ⟨_, _, _, _, _, _, (es1 ++ [la]) ++ [⟨e.nm, e.tb, e.bk, e.lk, fs2⟩], (xs1 ++ [.ref ta]) ++ [.ref tt], rfl, fun b u nb q => ?_, ?_, upd_same, ?_, .more wok hla (mv_fl (e := e) (fs := fs2) mok) fok2, by rw [List.length_append]; simp only [List.length_cons, List.length_nil]; omega⟩
        · rw [upd_ne (ne_of_none q hwq0)]
          exact k610 _ _ nb (k6 _ _ nb q)
        · obtain ⟨a, b, c, q, r⟩ := (p9.same s10).mono (show _ ≤ n + 7 + 8 * (i + 1) by omega)
          exact ⟨a, b, c, by rw [upd_ne nwp.symm]; exact q, r⟩
        · have sF : Same (less wq (less p H6)) (less wq (less p (upd H10 wq (.lst ((xs1 ++ [V.ref ta]) ++ [V.ref tt]))))) := fun b u q => by
            obtain ⟨q1, q2⟩ := less_some q
            obtain ⟨q3, q4⟩ := less_some q2
            rw [less_ne q1, less_ne q3, upd_ne q1]
            exact k610 _ _ q3 q4
          have g1 : less wq (less p (upd H10 wq (.lst ((xs1 ++ [V.ref ta]) ++ [V.ref tt])))) tt = some (.tup [V.str e.nm, V.str e.tb, V.bl e.bk, V.str e.lk, V.ref fq]) := by
            rw [less_ne ntw2, less_ne ntp2, upd_ne ntw2]
            exact h10
          have g2 : less wq (less p (upd H10 wq (.lst ((xs1 ++ [V.ref ta]) ++ [V.ref tt])))) fq = some (.lst (fs2.map V.str)) := by
            rw [less_ne nfw, less_ne nfp, upd_ne nfw]
            exact s10 _ _ h9
          rw [List.map_append]
          exact DpAll.app (DpAll.same sF _ _ dp6) (.cons (.tup (SqT.of g1) (.cons (.str _) (.cons (.str _) (.cons (.bl _) (.cons (.str _) (.cons (.lst (SqL.of g2) (DpAll.strs _)) .nil)))))) .nil)
    · rintro σ H5 ⟨x6, x7, x8, x9, x10, x11, es, xs, rfl, k5, p5, h5, dp5, wok, hel⟩
      refine ⟨_, rfl, kk _ wq es k5 (p5.mono (by omega)) hwq0 (.lst (SqL.of (by rw [less_ne nwp]; exact h5)) (DpAll.same (less_same _ _) _ _ dp5)) wok (by omega)⟩
end
end Ow

/-! the law's ways: written, is_told -/
namespace Ow
open PySem PySem.Spec PyProof.Rows L2 TL
theorem WayOk.bound {ts : List Tab} (ok : TabsOk ts) {es : List Stp} (w : WayOk ts es) : ∀ e ∈ es, e.nm.length ≤ 1000 ∧ e.fl.length ≤ 6 ∧ ∀ f ∈ e.fl, f.length ≤ 8 := fun e he => by
  obtain ⟨_, _, h3, _, f1, f2, f3⟩ := w.facts ok e he
  exact ⟨by omega, fls_few ok f2 f3, fun f hf => (isW_len (isFl_word ok (f3 f hf))).2⟩
theorem fm_word {α β : Type} (f : α → β) (l : List α) : l.filterMap (fun e => some (f e)) = l.map f := by
  induction l with
  | nil => rfl
  | cons x l ih => rw [List.filterMap_cons, ih]; rfl
section
variable {P : Program} {w : World} {K : PySem.W.Frag} {mg : Str → Option Value} {base : Heap}
theorem sc_law_written : FnScope [("_law_way_here" : Str), ("_law_entry" : Str)] [("_law_way_here" : Str)] (defScope s_law_written) := ⟨rfl, rfl, rfl, by decide +kernel, rfl, by decide +kernel, by decide +kernel⟩
theorem ok_lwr (D : TopD K mg "_law_written" s_law_written) (T : Blt mg) : FnAt P w K mg base "_law_written" [("_law_way_here" : Str)] 1 (spLwr K) := by
  refine fn_at D sc_law_written (fun _ _ _ _ _ _ us hl => match us, hl with | [_], _ => rfl) (fun vs H Q E h => ?_) (fun f cdv A outer s H vs Q E hr h => ?_)
  · obtain ⟨l, ts, es, rfl, _⟩ := h
    rfl
  · obtain ⟨l, ts, es, rfl, hdp, ok, wok, hel, kk⟩ := h
    refine ⟨_, (pss_one (ps_ret (pe_lc (own := [(("_law_entry" : Str), 1)]) (by rfl) sc_law_written.nd (pi_list (pv 0)) (blkOk_by (own := [(("_law_entry" : Str), 1)]) (N := [("_law_way_here" : Str), ("_law_entry" : Str)]) (sc := defScope s_law_written) (by decide +kernel)) (fun _ _ _ _ _ => pg_name (i := 1) sc_law_written.nd rfl (Or.inl rfl)) (fun _ _ _ _ _ => pts_nil) (fun _ _ _ _ _ => (pe_op op_add_str (pe_ix (ix_tupK (K := K)) (pv 1) pe_int (fun _ _ => rfl)) (pe_ifExp (pt_cmpR (op_neDK (K := K) hr.units) (pe_ix (ix_tupK (K := K)) (pv 1) pe_int (fun _ _ => rfl)) (pe_lst pa_nil) (nomark _)) (pe_op op_add_str (pe_op op_add_str pe_str (pe_joinK (K := K) pe_str (pe_ix (ix_tupK (K := K)) (pv 1) pe_int (fun _ _ => rfl)))) pe_str) pe_str)))))), ?_⟩
    have bd := wok.bound ok
    obtain ⟨_, xs, el, hS, dpa⟩ := Dp.lst_inv hdp
    cases el
    refine ⟨_, rfl, l, rfl, ⟨_, hS⟩, fun L hL => ?_⟩
    refine lc_rel (K := K) (l := es) (R0 := fun v e => Dp K H v (dStp e)) (fun v z => v = V.str z) (fun e => some (wordF false e)) hL hS (paired_of dpa) ?_ ?_
    · intro i v e H' hv hx hd P
      obtain ⟨a, fl, rfl, hat, hfl⟩ := dStp_inv hd
      obtain ⟨_, fs, ef, hfS, dpf⟩ := Dp.lst_inv hfl
      cases ef
      have efs := DpAll.strs_inv dpf
      subst efs
      have hb := bd e (List.mem_of_getElem? hx)
      obtain ⟨w1, w2⟩ := word_bound hb false
      refine ⟨rfl, yes_ ?_⟩
      have at1 := Same.sqT P.same hat
      refine ⟨_, rfl, a, _, _, _, rfl, rfl, at1, atI_nat (j := 0) rfl, ?_⟩
      refine ⟨_, rfl, a, _, _, _, rfl, rfl, at1, atI_nat (j := 4) rfl, by show 0 ≤ sizeLine; decide, fun e0 he0 => ?_⟩
      generalize e2 : upd H' e0 _ = H2
      have s2 := al_s e2 he0
      have h2 := al_v e2
      clear e2
      have sA := P.same.trans s2
      have fct := wok.facts ok e (List.mem_of_getElem? hx)
      have shf : SeqAt.shaped (.list (e.fl.map PyData.str)) = true := (Shp.lst (n := 0) (shp_strs fun z hz => strOk_word (isFl_word ok (fct.2.2.2.2.2.2 z hz)))).shaped (by decide)
      refine ⟨_, _, Dp.same sA _ _ hfl, dp_lst h2 .nil, shf, shp_nil', _, rfl, ?_⟩
      have es0 : (("" : Str)).length = 0 := by decide +kernel
      have es1 : (("[" : Str)).length = 1 := by decide +kernel
      have es2 : (("]" : Str)).length = 1 := by decide +kernel
      by_cases hf : e.fl = []
      · have ew : wordF false e = e.nm ++ ("" : Str) := by unfold wordF; rw [if_pos hf]
        rw [hf, List.map_nil, eqv_lst, eqvAll_nn]
        refine iteF ?_
        refine ⟨_, _, rfl, rfl, by rw [es0, sizeLine_eq]; omega, ?_⟩
        exact P.step (by omega) s2 hx rfl (by rw [ew]) hL
      · have ew : wordF false e = e.nm ++ (("[" : Str) ++ Txt.join ("," : Str) e.fl ++ ("]" : Str)) := by unfold wordF; rw [if_neg hf]; rfl
        have en : PyData.eqv (.list (e.fl.map PyData.str)) (.list []) = false := by
          cases e5 : e.fl with
          | nil => exact absurd e5 hf
          | cons _ _ => rw [List.map_cons, eqv_lst, eqvAll_cn]
        rw [en]
        refine iteT ?_
        have hsum : (e.fl.map (·.length)).sum + e.fl.length * (("," : Str)).length ≤ 16777216 := by
          have := sum_le hb.2.2
          have hc : (("," : Str)).length = 1 := by decide +kernel
          rw [hc]
          omega
        refine ⟨⟨_, rfl⟩, _, rfl, a, _, _, _, rfl, rfl, Same.sqT s2 at1, atI_nat (j := 4) rfl, _, _, e.fl, rfl, rfl, .inl (sA.seq hfS), hsum, _, _, rfl, rfl, by rw [es1, sizeLine_eq]; omega, _, _, rfl, rfl, by rw [len_app, es1, es2, sizeLine_eq]; omega, _, _, rfl, rfl, by rw [len_app, len_app, es1, es2, sizeLine_eq]; omega, ?_⟩
        exact P.step (by omega) s2 hx rfl (by rw [ew]) hL
    · intro H1 ys s1 h1 d1
      have ey := strs_of d1
      subst ey
      refine kk _ L s1 ?_
      rw [h1]
      rw [fm_word]
end
end Ow

/-! the law's ways: is_told -/
namespace Ow
open PySem PySem.Spec PyProof.Rows L2 TL
theorem WayOk.head {ts : List Tab} {es : List Stp} (w : WayOk ts es) : ∃ e r, es = e :: r ∧ e.nm = e.tb := by
  induction w with
  | one h f => exact ⟨_, [], rfl, rfl⟩
  | more w' hl m f ih =>
    obtain ⟨e, r, rfl, h⟩ := ih
    exact ⟨e, r ++ [_], rfl, h⟩
section
variable {P : Program} {w : World} {K : PySem.W.Frag} {mg : Str → Option Value} {base : Heap}
theorem sc_law_is_told : FnScope [("_law_told" : Str), ("_law_schema" : Str), ("_law_way_here" : Str), ("_law_tables_here" : Str), ("_law_entry" : Str), ("_law_e" : Str)] [("_law_told" : Str), ("_law_schema" : Str), ("_law_way_here" : Str)] (defScope s_law_is_told) := ⟨rfl, rfl, rfl, by decide +kernel, rfl, by decide +kernel, by decide +kernel⟩
theorem ok_told_ (D : TopD K mg "_law_is_told" s_law_is_told) (T : Blt mg) (M : ScC K mg) (S : ScS K mg) (SI : ScI K) (W : WyS K mg) (Y : WyC mg) (F_eq : MtAt P w K mg base "Schema" "__eq__" [("self" : Str), ("other" : Str)] 1 (spEqS K)) (F_strt : PrAt P w K mg base "Way" "is_straight" [("self" : Str)] 1 (spStr8 K)) (F_wlen : MtAt P w K mg base "Way" "__len__" [("self" : Str)] 1 (spWlen K)) (F_wstr : MtAt P w K mg base "Way" "__str__" [("self" : Str)] 2 (spWstr K)) (F_lwr : FnAt P w K mg base "_law_written" [("_law_way_here" : Str)] 1 (spLwr K)) :
    FnAt P w K mg base "_law_is_told" [("_law_told" : Str), ("_law_schema" : Str), ("_law_way_here" : Str)] 5 (spWtold K) := by
  refine fn_at D sc_law_is_told (fun _ _ _ _ _ _ us hl => match us, hl with | [_, _, _], _ => rfl) (fun vs H Q E h => ?_) (fun f cdv A outer s H vs Q E hr h => ?_)
  · obtain ⟨x, s, l, zz, ts, es, rfl, _⟩ := h
    rfl
  · obtain ⟨x, sc, l, zz, ts, es, rfl, hW, hS, ok, hdp, wok, hel, kk⟩ := h
    refine ⟨_, (pss_cons (ps_set (i := 3) sc_law_is_told.nd rfl (Or.inl rfl) (pe_callTy call_tuple_of (by rfl) T.tuple (by decide +kernel) (pa_cons (pe_lc (own := [(("_law_entry" : Str), 4)]) (by rfl) sc_law_is_told.nd (pi_list (pv 2)) (blkOk_by (own := [(("_law_entry" : Str), 4)]) (N := [("_law_told" : Str), ("_law_schema" : Str), ("_law_way_here" : Str), ("_law_tables_here" : Str), ("_law_entry" : Str), ("_law_e" : Str)]) (sc := defScope s_law_is_told) (by decide +kernel)) (fun _ _ _ _ _ => pg_name (i := 4) sc_law_is_told.nd rfl (Or.inl rfl)) (fun _ _ _ _ _ => pts_nil) (fun _ _ _ _ _ => (pe_ix (ix_tupK (K := K)) (pv 4) pe_int (fun _ _ => rfl)))) pa_nil)))
      (pss_cons (ps_if (PW.pt (pw_or (pt_cmpR op_ne (pe_fld (pv 0) rfl) (pe_ix ix_tup (pv 3) pe_int (fun _ _ => rfl)) (nomark _)) (pw_or (pt_cmpR op_ne (pe_fld (pv 0) rfl) (pe_ix ix_tup (pv 3) (pe_un un_neg pe_int) (fun _ _ => rfl)) (nomark _)) (pw_or1 (pt_cmpR (op_neD hr.units) (pe_fld (pv 0) rfl) (pv 3) (nomark _))))))
      (pss_one (ps_ret pe_bl))
      pss_nil)
      (pss_cons (ps_if (PW.pt (pw_or (pt_cmpR (op_neD hr.units) (pe_fld (pv 0) rfl) (pe_callTy call_tuple_of (by rfl) T.tuple (by decide +kernel) (pa_cons (pe_lc (own := [(("_law_entry" : Str), 4)]) (by rfl) sc_law_is_told.nd (pi_list (pv 2)) (blkOk_by (own := [(("_law_entry" : Str), 4)]) (N := [("_law_told" : Str), ("_law_schema" : Str), ("_law_way_here" : Str), ("_law_tables_here" : Str), ("_law_entry" : Str), ("_law_e" : Str)]) (sc := defScope s_law_is_told) (by decide +kernel)) (fun _ _ _ _ _ => pg_name (i := 4) sc_law_is_told.nd rfl (Or.inl rfl)) (fun _ _ _ _ _ => pts_nil) (fun _ _ _ _ _ => (pe_callTy (call_tuple_ofK (K := K)) (by rfl) T.tuple (by decide +kernel) (pa_cons (pe_ix (ix_tupK (K := K)) (pv 4) pe_int (fun _ _ => rfl)) pa_nil)))) pa_nil)) (nomark _)) (pw_or1 (pt_cmpR (op_neD hr.units) (pe_fld (pv 0) rfl) (pe_callTy call_tuple_of (by rfl) T.tuple (by decide +kernel) (pa_cons (pe_lc (own := [(("_law_e" : Str), 5)]) (by rfl) sc_law_is_told.nd (pi_list (pe_slice sl_list (pv 2) (po_some pe_int) po_none)) (blkOk_by (own := [(("_law_e" : Str), 5)]) (N := [("_law_told" : Str), ("_law_schema" : Str), ("_law_way_here" : Str), ("_law_tables_here" : Str), ("_law_entry" : Str), ("_law_e" : Str)]) (sc := defScope s_law_is_told) (by decide +kernel)) (fun _ _ _ _ _ => pg_name (i := 5) sc_law_is_told.nd rfl (Or.inl rfl)) (fun _ _ _ _ _ => pts_nil) (fun _ _ _ _ _ => (pe_ix (ix_tupK (K := K)) (pv 5) pe_int (fun _ _ => rfl)))) pa_nil)) (nomark _)))))
      (pss_one (ps_ret pe_bl))
      pss_nil)
      (pss_cons (ps_if (PW.pt (pw_or (pt_cmpR op_ne (pe_pr F_strt W.cl (hr.mono (by decide)) (pv 0)) (pe_cmpR op_eq (pe_numS rfl (by rfl) T.len (by rfl) Y.set (pv 3)) (pe_callB call_len_seq (by rfl) T.len PySem.boot_len (pa_cons (pv 3) pa_nil)) (nomark _)) (nomark _)) (pw_or1 (pt_cmpR op_ne (pe_callB (call_lenO F_wlen (hr.mono (by decide))) (by rfl) T.len PySem.boot_len (pa_cons (pv 0) pa_nil)) (pe_op op_sub (pe_callB call_len_seq (by rfl) T.len PySem.boot_len (pa_cons (pv 2) pa_nil)) pe_int) (nomark _)))))
      (pss_one (ps_ret pe_bl))
      pss_nil)
      (pss_cons (ps_if (pt_not (pt_val (pe_callB call_isi (by rfl) M.isinstance (by decide +kernel) (pa_cons (pe_pr F_strt W.cl (hr.mono (by decide)) (pv 0)) (pa_cons (pe_bltn (v := .ty "bool") (by rfl) Y.bool (by decide +kernel) rfl) pa_nil)))))
      (pss_one (ps_ret pe_bl))
      pss_nil)
      (pss_one (ps_ret (pe_and (pe_cmpR (op_eqO F_eq (hr.mono (by decide))) (pe_fld (pv 0) rfl) (pv 1) (nomark _)) (pe_one (pe_cmpR op_eq (pe_callTy (call_strO F_wstr (hr.mono (by decide))) (by rfl) M.str (by decide +kernel) (pa_cons (pv 0) pa_nil)) (pe_join pe_str (pe_fn F_lwr (hr.mono (by decide)) (by rfl) (pa_cons (pv 2) pa_nil))) (nomark _))))))))))), ?_⟩
    have hne := wok.ne
    obtain ⟨_, xs, el, hlS, dpa⟩ := Dp.lst_inv hdp
    cases el
    have hxl := DpAll.len dpa
    rw [List.length_map] at hxl
    refine ⟨_, rfl, l, rfl, ⟨_, hlS⟩, fun L hL => ?_⟩
    refine lc_rel (K := K) (l := es) (R0 := fun v e => Dp K H v (dStp e)) (fun v z => v = V.str z) (fun e => some e.tb) hL hlS (paired_of dpa) ?_ ?_
    · intro i v e H' hv hx hd P
      obtain ⟨a, fl, rfl, hat, hfl⟩ := dStp_inv hd
      exact ⟨rfl, yes_ ⟨_, rfl, a, _, _, _, rfl, rfl, Same.sqT P.same hat, atI_nat (j := 1) rfl, P.step (by omega) (Same.refl _) hx rfl rfl hL⟩⟩
    intro H1 ys s1 h1 d1
    have ey := strs_of d1
    rw [fm_some] at ey
    subst ey
    refine ⟨L, _, rfl, .inl ⟨SqL.of h1, fun tq htq => ?_⟩⟩
    generalize e2 : upd H1 tq _ = H2
    have s2 := al_s e2 htq
    have h2 := al_v e2
    clear e2
    have s12 := s1.trans s2
    have hW2 := hW.same s12
    have etb : (es.map fun e => V.str e.tb) = (es.map fun e => e.tb).map V.str := by rw [List.map_map] <;> rfl
    obtain ⟨e0, er, ees⟩ : ∃ e0 er, es = e0 :: er := by
      cases es with
      | nil => exact absurd rfl hne
      | cons e0 er => exact ⟨e0, er, rfl⟩
    obtain ⟨ei, el, eel⟩ : ∃ ei el, es = ei ++ [el] := by
      rcases List.eq_nil_or_concat es with e | ⟨ei, el, e⟩
      · exact absurd e hne
      · exact ⟨ei, el, by rw [e, List.concat_eq_append]⟩
    have at0 : atI ((es.map fun e => e.tb).map V.str) 0 = some (V.str (stTb es)) := by rw [ees]; exact atI_nat (j := 0) rfl
    have at1 : atI ((es.map fun e => e.tb).map V.str) (-1) = some (V.str (enTb es)) := by
      rw [eel, enTb_app, List.map_append, List.map_append]
      exact atI_last _ _
    obtain ⟨dx, a1, a2, a3, a4, w1, w2, w3, w4, w5⟩ := id hW2
    refine ⟨_, rfl, x, _, dx, _, _, rfl, w1, W.cl, W.start, rfl, _, rfl, tq, _, _, _, rfl, rfl, SqT.of h2, at0, rfl, _, rfl, ?_⟩
    refine iteNS rfl ?_
    refine ⟨_, rfl, x, _, dx, _, _, rfl, w1, W.cl, W.end_, rfl, _, rfl, _, rfl, tq, _, _, _, rfl, rfl, SqT.of h2, at1, rfl, _, rfl, ?_⟩
    refine iteNS rfl ?_
    have fct := wok.facts ok
    have sht : SeqAt.shaped (.tuple ((es.map fun e => e.tb).map PyData.str)) = true := (Shp.tup (n := 0) (shp_strs fun z hz => by
      obtain ⟨e, he, rfl⟩ := List.mem_map.mp hz
      exact strOk_word (ok.names _ (fct e he).1))).shaped (by decide)
    have dT1 : Dp K H2 (.ref a1) (.tuple ((es.map fun e => e.tb).map PyData.str)) := by
      rw [etb] at w2
      exact .tup (SqT.of w2) (DpAll.strs _)
    have dT2 : Dp K H2 (.ref tq) (.tuple ((es.map fun e => e.tb).map PyData.str)) := .tup (SqT.of h2) (DpAll.strs _)
    refine ⟨_, rfl, x, _, dx, _, _, rfl, w1, W.cl, W.tables, rfl, _, rfl, _, _, dT1, dT2, sht, sht, _, rfl, ?_⟩
    rw [eqv_same sht]
    refine iteF (nxt_ ?_)
    have dpa2 := DpAll.same s12 _ _ dpa
    refine ⟨_, rfl, x, _, dx, _, _, rfl, w1, W.cl, W.asked, rfl, _, rfl, l, rfl, ⟨_, s12.seq hlS⟩, fun L3 hL3 => ?_⟩
    refine lc_dat (K := K) (f := dStp) (l := es) (fun e => some (dFl e)) hL3 (s12.seq hlS) dpa2 ?_ ?_
    · intro i v e H' hv hx hd P
      obtain ⟨a, fl, rfl, hat, hfl⟩ := dStp_inv hd
      obtain ⟨_, fs, ef, hfS, dpf⟩ := Dp.lst_inv hfl
      cases ef
      have efs := DpAll.strs_inv dpf
      subst efs
      refine ⟨rfl, yes_ ⟨_, rfl, a, _, _, _, rfl, rfl, hat, atI_nat (j := 4) rfl, fl, _, rfl, .inl ⟨hfS, fun tt htt => ?_⟩⟩⟩
      refine P.step (by omega) (same_upd htt) hx rfl (.tup (SqT.of (by rw [less_ne (P.ne htt)]; exact upd_same)) (DpAll.strs _)) hL3
    intro H4 ys s4 h4 d4
    rw [fm_some] at d4
    refine ⟨L3, _, rfl, .inl ⟨SqL.of h4, fun t5 ht5 => ?_⟩⟩
    generalize e5 : upd H4 t5 _ = H5
    have s5 := al_s e5 ht5
    have h5 := al_v e5
    clear e5
    have sha : SeqAt.shaped (.tuple (es.map dFl)) = true := (Shp.tup (n := 1) (fun d hd => by
      obtain ⟨e, he, rfl⟩ := List.mem_map.mp hd
      exact .tup (shp_strs fun z hz => strOk_word (isFl_word ok ((fct e he).2.2.2.2.2.2 z hz))))).shaped (by decide)
    have s45 := s4.trans s5
    have dA1 : Dp K H5 (.ref a2) (.tuple (es.map dFl)) := Dp.same ((tups_in _).trans s45) _ _ w3
    have dA2 : Dp K H5 (.ref t5) (.tuple (es.map dFl)) := .tup (SqT.of h5) (DpAll.same ((less_same _ _).trans s5) _ _ d4)
    refine ⟨_, _, dA1, dA2, sha, sha, _, rfl, ?_⟩
    rw [eqv_same sha]
    refine iteF ?_
    have hl5 := s45.seq (s12.seq hlS)
    refine ⟨_, rfl, x, _, dx, _, _, rfl, s45 _ _ w1, W.cl, W.steps, rfl, _, rfl, _, rfl, l, _, rfl, hl5, fun p6 hp6 => ?_⟩
    have ecut : cutV xs (some 1) none = xs.tail := by
      have := cut_from xs 1
      rw [show ((1 : Nat) : Int) = 1 from rfl] at this
      rw [this, List.drop_one]
    rw [ecut]
    generalize e6 : upd H5 p6 _ = H6
    have s6 := al_s e6 hp6
    have h6 := al_v e6
    clear e6
    refine ⟨p6, rfl, ⟨_, SqL.of h6⟩, fun L7 hL7 => ?_⟩
    have dpt : DpAll K H6 xs.tail (es.tail.map dStp) := by
      have q := DpAll.same (s45.trans s6) _ _ dpa2
      rw [ees] at q ⊢
      cases q with
      | cons _ q2 => exact q2
    refine lc_rel (K := K) (l := es.tail) (R0 := fun v e => Dp K H6 v (dStp e)) (fun v z => v = V.str z) (fun e => some e.nm) hL7 (SqL.of h6) (paired_of dpt) ?_ ?_
    · intro i v e H' hv hx hd P
      obtain ⟨a, fl, rfl, hat, hfl⟩ := dStp_inv hd
      exact ⟨rfl, yes_ ⟨_, rfl, a, _, _, _, rfl, rfl, Same.sqT P.same hat, atI_nat (j := 0) rfl, P.step (by rw [List.length_tail]; omega) (Same.refl _) hx rfl rfl hL7⟩⟩
    intro H8 ys8 s8 h8 d8
    have ey8 := strs_of d8
    rw [fm_some] at ey8
    subst ey8
    refine ⟨L7, _, rfl, .inl ⟨SqL.of h8, fun t9 ht9 => ?_⟩⟩
    generalize e9 : upd H8 t9 _ = H9
    have s9 := al_s e9 ht9
    have h9 := al_v e9
    clear e9
    have s59 := s6.trans (s8.trans s9)
    have s29 := s45.trans s59
    have shs : SeqAt.shaped (.tuple ((es.tail.map fun e => e.nm).map PyData.str)) = true := (Shp.tup (n := 0) (shp_strs fun z hz => by
      obtain ⟨e, he, rfl⟩ := List.mem_map.mp hz
      exact nm_ok (fct e (List.mem_of_mem_tail he)).2.1)).shaped (by decide)
    have ens : (es.tail.map fun e => V.str e.nm) = (es.tail.map fun e => e.nm).map V.str := by rw [List.map_map] <;> rfl
    have dS1 : Dp K H9 (.ref a3) (.tuple ((es.tail.map fun e => e.nm).map PyData.str)) := by
      rw [ens] at w4
      exact .tup (SqT.of (s29 _ _ w4)) (DpAll.strs _)
    have dS2 : Dp K H9 (.ref t9) (.tuple ((es.tail.map fun e => e.nm).map PyData.str)) := .tup (SqT.of h9) (DpAll.strs _)
    refine ⟨_, _, dS1, dS2, shs, shs, _, rfl, ?_⟩
    rw [eqv_same shs]
    refine iteF (nxt_ ?_)
    have w19 := s29 _ _ w1
    have hW9 := hW2.same s29
    have h29 := s29 _ _ h2
    refine ⟨_, rfl, x, dx, _, rfl, w19, x, sc, es, rfl, hW9, hel, ?_⟩
    refine ⟨_, rfl, tq, es.map fun e => e.tb, rfl, SqT.of h29, by rw [List.length_map]; omega, _, rfl, tq, _, rfl, .inr (SqT.of h29), rfl, rfl, _, rfl, ?_⟩
    refine iteNS ?_ ?_
    · rw [List.length_map, List.length_map]
    refine ⟨_, rfl, x, dx, _, rfl, w19, x, sc, es, rfl, hW9, _, rfl, ?_⟩
    have tl_ : es.tail.length + 1 = es.length := by rw [ees]; rfl
    have hl9 := s59.seq hl5
    have hxl2 : xs.length = es.length := hxl
    refine ⟨by have : (2 : Nat) ^ 63 > 13 := by decide
               omega, ?_⟩
    refine ⟨_, rfl, l, _, rfl, .inl hl9, _, _, rfl, rfl, rfl, _, rfl, ?_⟩
    refine iteNS (by rw [hxl2, ← tl_]; congr 1; omega) (nxt_ ?_)
    refine ⟨_, rfl, x, dx, _, rfl, w19, x, sc, es, rfl, hW9, hel, _, _, _, _, true, rfl, .ty "bool", .base (.bl _), kit_ty (by decide +kernel), _, rfl, iteF (nxt_ ?_)⟩
    have hS9 := hS.same (s12.trans s29)
    obtain ⟨dxs, ds, tps, os, kvs, hs1, _⟩ := id hS9
    refine ⟨_, rfl, x, _, dx, _, _, rfl, w19, W.cl, W.schema, rfl, _, rfl, sc, dxs, _, _, rfl, hs1, SI.ins hs1, ?_, sc, zz, ts, _, rfl, hS9, .inl ⟨sc, zz, ts, rfl, hS9, _, rfl, ?_⟩⟩
    · have nf : PySem.W.notFirst K (He.ga K "Schema") (.ref (He.ga K "Schema")) = true := by simp [PySem.W.notFirst]
      exact nf
    refine ⟨_, rfl, ?_⟩
    rw [decide_eq_true rfl]
    refine iteT ?_
    have bd := wok.bound ok
    have e0n : ∃ e r, es = e :: r ∧ e.nm = e.tb := wok.head
    refine ⟨_, rfl, x, dx, _, rfl, w19, x, sc, es, rfl, hW9, e0n, hel, bd, fun H10 s10 => ⟨_, rfl, ?_⟩⟩
    refine ⟨⟨_, rfl⟩, _, rfl, l, ts, es, rfl, Dp.same (s12.trans (s29.trans s10)) _ _ hdp, ok, wok, hel, fun H11 q s11 hq => ?_⟩
    have b1 : ∀ z ∈ es.map (wordF false), z.length ≤ 1062 := fun z hz => by
      obtain ⟨e, he, rfl⟩ := List.mem_map.mp hz
      exact (word_bound (bd e he) false).1
    have b2 := sum_le b1
    rw [List.length_map] at b2
    refine ⟨_, q, _, rfl, rfl, .inl (SqL.of hq), by rw [List.length_map, sp1]; omega, rfl, ?_⟩
    rw [decide_eq_true rfl]
    exact kk _ (s12.trans (s29.trans (s10.trans s11)))
end
end Ow

/-! law k18: law -/
namespace Ow
open PySem PySem.Spec PyProof.Rows L2 TL
theorem joinL_app {S : List Nat} : ∀ {a b : List (List Nat)}, a ≠ [] → b ≠ [] → joinL S (a ++ b) = joinL S a ++ (S ++ joinL S b)
  | [], _, h, _ => absurd rfl h
  | [x], [], _, h => absurd rfl h
  | [x], y :: b, _, _ => rfl
  | x :: y :: a, b, _, hb => by
    have ih := joinL_app (S := S) (a := y :: a) (b := b) (by simp) hb
    show x ++ (S ++ joinL S ((y :: a) ++ b)) = (x ++ (S ++ joinL S (y :: a))) ++ (S ++ joinL S b)
    rw [ih]
    simp only [List.append_assoc]
theorem join_two {ws : List Str} {k : Nat} (h0 : 0 < k) (h1 : k < ws.length) : Txt.join (" " : Str) [Txt.join (" " : Str) (ws.take k), Txt.join (" " : Str) (ws.drop k)] = Txt.join (" " : Str) ws := by
  refine ext_tl ?_
  simp only [join_eq, tl_join, List.map_cons, List.map_nil]
  show joinL _ (List.map tl (ws.take k)) ++ (tl (" " : Str) ++ joinL _ (List.map tl (ws.drop k))) = _
  rw [← joinL_app]
  · rw [← List.map_append, List.take_append_drop]
  · intro z
    have := congrArg List.length z
    rw [List.length_map, List.length_take, List.length_nil] at this
    omega
  · intro z
    have := congrArg List.length z
    rw [List.length_map, List.length_drop, List.length_nil] at this
    omega
theorem nm_ {i : Nat} {v : V} {σ : L2.St} {H : Hp} {Q : L2.St → Hp → Prop} (h : Q (σ.set i (some v)) H) : gName i v σ H Q := h
theorem mknx_ {u bk ct : L2.St → Hp → Prop} {rt : VK} {σ : L2.St} {H : Hp} (h : u σ H) : (Ends.mk u rt bk ct).nx σ H := h
theorem ifs_k {c : TT} {t u v : TS} {D : Ends} {σ : L2.St} {H : Hp} (G : Bool → Hp → Prop) (hQ : ∀ b H', G b H' → if b = true then t { D with nx := v D } σ H' else u { D with nx := v D } σ H') (h : (∀ b H', G b H' → if b = true then t { D with nx := v D } σ H' else u { D with nx := v D } σ H') → c σ H (fun b H1 => if b = true then t { D with nx := v D } σ H1 else u { D with nx := v D } σ H1)) : tSeq (tIfS c t u) v D σ H := h hQ
theorem asg_k {te : TE} {g : TG} {u : TS} {D : Ends} {σ : L2.St} {H : Hp} (G : V → Hp → Prop) (hQ : ∀ v H', G v H' → g v σ H' (u D)) (h : (∀ v H', G v H' → g v σ H' (u D)) → te σ H (fun x H1 => g x σ H1 (u D))) : tSeq (tAsg te g) u D σ H := h hQ
theorem word_signs {ts : List Tab} (ok : TabsOk ts) {es : List Stp} (w : WayOk ts es) (r : Bool) {e : Stp} (he : e ∈ es) : ∀ c ∈ tl (wordF r e), 33 ≤ c ∧ c < 128 := by
  obtain ⟨_, h2, _, _, f1, f2, f3⟩ := w.facts ok e he
  intro c hc
  unfold wordF at hc
  rw [tl_append] at hc
  rcases List.mem_append.mp hc with q | q
  · have := h2 c q
    omega
  · split at q
    · rw [show tl ("" : Str) = [] from by decide +kernel] at q
      cases q
    · rw [tl_append, tl_append, show tl ("[" : Str) = [91] from by decide +kernel, show tl ("]" : Str) = [93] from by decide +kernel] at q
      rcases List.mem_append.mp q with q | q
      · rcases List.mem_append.mp q with q | q
        · rw [List.mem_singleton.mp q]
          omega
        · rw [join_eq, tl_join] at q
          rcases mem_joinL q with q | ⟨p, hp, q⟩
          · rw [show tl ("," : Str) = [44] from by decide +kernel] at q
            rw [List.mem_singleton.mp q]
            omega
          · obtain ⟨z, hz, rfl⟩ := List.mem_map.mp hp
            have hz' : z ∈ e.fl := by
              split at hz
              · exact List.mem_reverse.mp hz
              · exact hz
            have := isW_low (isFl_word ok (f3 z hz')) c q
            omega
      · rw [List.mem_singleton.mp q]
        omega
theorem way_text {ts : List Tab} (ok : TabsOk ts) {es : List Stp} (w : WayOk ts es) (hel : es.length ≤ 13) (r : Bool) : readW ts (wsOf (Txt.join (" " : Str) (es.map (wordF r)))) [] = .ok es ∧ Lo (Txt.join (" " : Str) (es.map (wordF r))) ∧ wt (es.map (wordF r)) ≤ 20000 := by
  have hb : ∀ z ∈ es.map (wordF r), z.length ≤ 1062 := fun z hz => by
    obtain ⟨e, he, rfl⟩ := List.mem_map.mp hz
    exact (word_bound (w.bound ok e he) r).1
  have b1 := sum_le hb
  have b2 : wt (es.map (wordF r)) ≤ 20000 := by
    unfold wt
    rw [List.length_map] at b1 ⊢
    omega
  refine ⟨?_, ⟨fun c hc => ?_, ?_⟩, b2⟩
  · have e : wsOf (Txt.join (" " : Str) (es.map (wordF r))) = es.map (wordF r) := by
      refine TL.split_join (s := 32) (S := []) (by decide +kernel) (by decide +kernel) (by simpa using w.ne) fun p hp q => ?_
      obtain ⟨e, he, rfl⟩ := List.mem_map.mp hp
      have := word_signs ok w r he 32 q
      omega
    rw [e]
    exact read_way ok w hel r
  · rw [join_eq, tl_join] at hc
    rcases mem_joinL hc with q | ⟨p, hp, q⟩
    · rw [show tl (" " : Str) = [32] from by decide +kernel] at q
      rw [List.mem_singleton.mp q]
      omega
    · obtain ⟨z, hz, rfl⟩ := List.mem_map.mp hp
      obtain ⟨e, he, rfl⟩ := List.mem_map.mp hz
      have := word_signs ok w r he c q
      omega
  · have := join_le sp1 (es.map (wordF r))
    omega
section
variable {P : Program} {w : World} {K : PySem.W.Frag} {mg : Str → Option Value} {base : Heap}
theorem sc_law : FnScope [("_law_script" : Str), ("_law_at" : Str), ("_law_pool_here" : Str), ("_law_tables_here" : Str), ("_law_start" : Str), ("_law_name" : Str), ("_law_columns_here" : Str), ("_law_way_here" : Str), ("_law_turned" : Str), ("_law_words" : Str), ("_law_entry" : Str), ("_law_schema" : Str), ("_law_told" : Str), ("_law_cut" : Str), ("_law_parts" : Str)] [("_law_script" : Str)] (defScope s_law) := ⟨rfl, rfl, rfl, by decide +kernel, rfl, by decide +kernel, by decide +kernel⟩
theorem ok_law {f : Addr} {fd : FuncData} (F : FnP K "law" s_law f fd) (T : Blt mg) (M : ScC K mg) (S : ScS K mg) (SI : ScI K) (W : WyS K mg) (Y : WyC mg) (F_pool : FnAt P w K mg base "_law_pool" [("_law_script" : Str), ("_law_at" : Str)] 1 (spPool K)) (F_draw : FnAt P w K mg base "_law_draw" [("_law_pool_here" : Str), ("_law_many" : Str)] 1 spDraw) (F_of : FnAt P w K mg base "_law_of" [("_law_pool_here" : Str), ("_law_some" : Str)] 2 (spOf K)) (F_tables : FnAt P w K mg base "_law_tables" [("_law_pool_here" : Str), ("_law_most" : Str), ("_law_widest" : Str)] 3 (spTables K))
    (F_text : FnAt P w K mg base "_law_text" [("_law_tables_here" : Str)] 1 (spText K)) (F_lway : FnAt P w K mg base "_law_way" [("_law_pool_here" : Str), ("_law_tables_here" : Str), ("_law_start" : Str), ("_law_most" : Str), ("_law_often" : Str)] 3 (spLway K)) (F_told_ : FnAt P w K mg base "_law_is_told" [("_law_told" : Str), ("_law_schema" : Str), ("_law_way_here" : Str)] 5 (spWtold K)) (F_init : MtAt P w K mg base "Schema" "__init__" [("self" : Str), ("text" : Str)] 4 (spInit K))
    (F_way : MtAtX P w K mg base "Way" "__init__" [("self" : Str), ("schema" : Str), ("text" : Str)] 6 (spWay K)) (F_of_ : CmAt P w K mg base (L2.CX P w) "Way" "of" 8 (spStar 2 (spWof K))) (F_wstr : MtAt P w K mg base "Way" "__str__" [("self" : Str)] 2 (spWstr K)) :
    FnG P w K mg base 9 f fd [("_law_script" : Str)] (spLaw K) := by
  refine fnG_of F sc_law (fun vs H Q E h => ?_) (fun cdv A outer s H vs Q hg hr h => ?_)
  · obtain ⟨a, ns, rfl, _⟩ := h
    rfl
  · obtain ⟨a, nsS, rfl, hS, hl, k⟩ := h
    refine ⟨_, (pss_cons (ps_for PassesOwn.never rfl (pi_range1 rfl T.range (pa_cons (pe_callB (call_max2 rfl) (by rfl) T.max (by decide +kernel) (pa_cons pe_int (pa_cons (pe_callB (call_min2 rfl) (by rfl) T.min (by decide +kernel) (pa_cons pe_int (pa_cons (pe_callB call_len_seq (by rfl) T.len PySem.boot_len (pa_cons (pv 0) pa_nil)) pa_nil))) pa_nil))) pa_nil)) (pg_name (i := 1) sc_law.nd rfl (Or.inl rfl))
      (pss_cons (ps_set (i := 2) sc_law.nd rfl (Or.inl rfl) (pe_fn F_pool (hr.mono (by decide)) (by rfl) (pa_cons (pv 0) (pa_cons (pv 1) pa_nil))))
      (pss_cons (ps_set (i := 3) sc_law.nd rfl (Or.inl rfl) (pe_fn F_tables (hr.mono (by decide)) (by rfl) (pa_cons (pv 2) (pa_cons pe_int (pa_cons pe_int pa_nil)))))
      (pss_cons (ps_set (i := 4) sc_law.nd rfl (Or.inl rfl) (pe_fn F_of (hr.mono (by decide)) (by rfl) (pa_cons (pv 2) (pa_cons (pe_lc (own := [(("_law_name" : Str), 5), (("_law_columns_here" : Str), 6)]) (by rfl) sc_law.nd (pi_list (pv 3)) (blkOk_by (own := [(("_law_name" : Str), 5), (("_law_columns_here" : Str), 6)]) (N := [("_law_script" : Str), ("_law_at" : Str), ("_law_pool_here" : Str), ("_law_tables_here" : Str), ("_law_start" : Str), ("_law_name" : Str), ("_law_columns_here" : Str), ("_law_way_here" : Str), ("_law_turned" : Str), ("_law_words" : Str), ("_law_entry" : Str), ("_law_schema" : Str), ("_law_told" : Str), ("_law_cut" : Str), ("_law_parts" : Str)]) (sc := defScope s_law) (by decide +kernel)) (fun _ _ _ _ _ => pg_tupK (K := K) (n := 2) rfl (pgs_cons (pg_name (i := 5) sc_law.nd rfl (Or.inl rfl)) (pgs_cons (pg_name (i := 6) sc_law.nd rfl (Or.inl rfl)) pgs_nil))) (fun _ _ _ _ _ => pts_nil) (fun _ _ _ _ _ => (pv 5))) pa_nil))))
      (pss_cons (ps_set (i := 7) sc_law.nd rfl (Or.inl rfl) (pe_fn F_lway (hr.mono (by decide)) (by rfl) (pa_cons (pv 2) (pa_cons (pv 3) (pa_cons (pv 4) (pa_cons pe_int (pa_cons (pe_op op_add pe_int (pe_fn F_draw (hr.mono (by decide)) (by rfl) (pa_cons (pv 2) (pa_cons pe_int pa_nil)))) pa_nil)))))))
      (pss_cons (ps_set (i := 8) sc_law.nd rfl (Or.inr rfl) (pe_cmpR op_eq (pe_fn F_draw (hr.mono (by decide)) (by rfl) (pa_cons (pv 2) (pa_cons pe_int pa_nil))) pe_int (nomark _)))
      (pss_cons (ps_setLc (i := 9) (own := [(("_law_entry" : Str), 10)]) (by rfl) sc_law.nd rfl rfl (sw_true rfl rfl rfl (by decide +kernel)) (pi_list (pv 7)) (blkOk_by (own := [(("_law_entry" : Str), 10)]) (N := [("_law_script" : Str), ("_law_at" : Str), ("_law_pool_here" : Str), ("_law_tables_here" : Str), ("_law_start" : Str), ("_law_name" : Str), ("_law_columns_here" : Str), ("_law_way_here" : Str), ("_law_turned" : Str), ("_law_words" : Str), ("_law_entry" : Str), ("_law_schema" : Str), ("_law_told" : Str), ("_law_cut" : Str), ("_law_parts" : Str)]) (sc := defScope s_law) (by decide +kernel)) (fun _ _ _ _ _ => pg_name (i := 10) sc_law.nd rfl (Or.inl rfl)) (fun _ _ _ _ _ => pts_nil) (fun _ _ _ _ _ => (pe_op op_add_str (pe_ix (ix_tupK (K := K)) (pv 10) pe_int (fun _ _ => rfl)) (pe_ifExp (pt_cmpR (op_neDK (K := K) hr.units) (pe_ix (ix_tupK (K := K)) (pv 10) pe_int (fun _ _ => rfl)) (pe_lst pa_nil) (nomark _)) (pe_op op_add_str (pe_op op_add_str pe_str (pe_joinK (K := K) pe_str (pe_ifExp (pt_val (pv 8)) (pe_revLK (K := K) (pe_ix (ix_tupK (K := K)) (pv 10) pe_int (fun _ _ => rfl))) (pe_ix (ix_tupK (K := K)) (pv 10) pe_int (fun _ _ => rfl))))) pe_str) pe_str))))
      (pss_cons (ps_set (i := 11) sc_law.nd rfl (Or.inl rfl) (pe_mk (kf := ("" : Str)) F_init S.mak (hr.mono (by decide)) (by rfl) S.at_ (pa_cons (pe_fn F_text (hr.mono (by decide)) (by rfl) (pa_cons (pv 3) pa_nil)) pa_nil)))
      (pss_cons (ps_set (i := 12) sc_law.nd rfl (Or.inl rfl) (pe_mkX F_way W.mak passL (hr.mono (by decide)) (by rfl) W.at_ (pa_cons (pv 11) (pa_cons (pe_join pe_str (pv 9)) pa_nil))))
      (pss_cons (ps_if (PW.pt (pw_or (pt_not (pt_val (pe_fn F_told_ (hr.mono (by decide)) (by rfl) (pa_cons (pv 12) (pa_cons (pv 11) (pa_cons (pv 7) pa_nil)))))) (pw_or1 (pt_not (pt_val (pe_fn F_told_ (hr.mono (by decide)) (by rfl) (pa_cons (pe_mkX F_way W.mak passL (hr.mono (by decide)) (by rfl) W.at_ (pa_cons (pv 11) (pa_cons (pe_callTy (call_strO F_wstr (hr.mono (by decide))) (by rfl) M.str (by decide +kernel) (pa_cons (pv 12) pa_nil)) pa_nil))) (pa_cons (pv 11) (pa_cons (pv 7) pa_nil)))))))))
      (pss_one (ps_ret pe_bl))
      pss_nil)
      (pss_cons (ps_set (i := 13) sc_law.nd rfl (Or.inl rfl) (pe_fn F_draw (hr.mono (by decide)) (by rfl) (pa_cons (pv 2) (pa_cons (pe_callB call_len_seq (by rfl) T.len PySem.boot_len (pa_cons (pv 9) pa_nil)) pa_nil))))
      (pss_cons (ps_set (i := 14) sc_law.nd rfl (Or.inl rfl) (pe_ifExp (pt_cmpR op_lt (pe_op op_add (pv 13) pe_int) (pe_callB call_len_seq (by rfl) T.len PySem.boot_len (pa_cons (pv 9) pa_nil)) (nomark _)) (pe_cm F_of_ passL (hr.mono (by decide)) (pe_glob (v := .ref (He.ga K "Way")) (by rfl) W.at_ rfl) (pa_cons (pv 11) (pa_cons (pe_join pe_str (pe_slice sl_list (pv 9) po_none (po_some (pe_op op_add (pv 13) pe_int)))) (pa_cons (pe_join pe_str (pe_slice sl_list (pv 9) (po_some (pe_op op_add (pv 13) pe_int)) po_none)) pa_nil)))) pe_non))
      (pss_cons (ps_if (PW.pt (pw_and (pt_cmpR op_notN (pv 14) pe_non (nomark _)) (pw_and1 (pt_not (pt_val (pe_fn F_told_ (hr.mono (by decide)) (by rfl) (pa_cons (pv 14) (pa_cons (pv 11) (pa_cons (pv 7) pa_nil)))))))))
      (pss_one (ps_ret pe_bl))
      pss_nil)
      (pss_cons (ps_if (pt_not (pt_val (pe_fn F_told_ (hr.mono (by decide)) (by rfl) (pa_cons (pe_cm F_of_ passL (hr.mono (by decide)) (pe_glob (v := .ref (He.ga K "Way")) (by rfl) W.at_ rfl) (pa_cons (pv 11) (pa_cons (pe_join pe_str (pv 9)) pa_nil))) (pa_cons (pv 11) (pa_cons (pv 7) pa_nil))))))
      (pss_one (ps_ret pe_bl))
      pss_nil)
      (pss_one (ps_if (PW.pt (pw_or (pt_not (pt_val (pe_callB call_isi (by rfl) M.isinstance (by decide +kernel) (pa_cons (pe_fld (pv 12) rfl) (pa_cons (pe_bltn (v := .ty "tuple") (by rfl) M.tuple (by decide +kernel) rfl) pa_nil))))) (pw_or1 (pt_not (pt_val (pe_callB call_isi (by rfl) M.isinstance (by decide +kernel) (pa_cons (pe_ix ix_tup (pe_fld (pv 12) rfl) pe_int (fun _ _ => rfl)) (pa_cons (pe_bltn (v := .ty "tuple") (by rfl) M.tuple (by decide +kernel) rfl) pa_nil))))))))
      (pss_one (ps_ret pe_bl))
      pss_nil))))))))))))))))
      (pss_one (ps_ret pe_bl))), ?_⟩
    have hj := loop_bound (n := ((nsS.map V.int).length : Int)) (Int.natCast_nonneg _)
    refine ⟨_, rfl, a, _, rfl, .inl hS, 8, _, rfl, 1, _, rfl, _, rfl, by omega, by omega, ?_⟩
    refine for_range (lo := 0) (fun i σ H' => ∃ x1 x2 x3 x4 x5 x6 x7 x8 x9 x10 x11 x12 x13 x14 : Option V, σ = [some (.ref a), x1, x2, x3, x4, x5, x6, x7, x8, x9, x10, x11, x12, x13, x14] ∧ Same H H') ⟨_, _, _, _, _, _, _, _, _, _, _, _, _, _, rfl, Same.refl _⟩ ?_ ?_
    · rintro i σ H0 hi ⟨x1, x2, x3, x4, x5, x6, x7, x8, x9, x10, x11, x12, x13, x14, rfl, s0⟩
      refine ⟨_, rfl, _, rfl, a, nsS, i, by simp, s0.seq hS, by omega, fun H1 p np s1 p1 => ?_⟩
      refine ⟨_, rfl, p, 0, 5, 6, rfl, p1, by decide, by decide, by decide, by decide, fun H2 l1 ts k2 n2 p2 d1 ok w1 => ?_⟩
      have few := ok.few
      have n1p : l1 ≠ p := p1.ne n2
      obtain ⟨_, xs, el, hlS, dpa⟩ := Dp.lst_inv d1
      cases el
      have hlS2 := (less_same p H2).seq hlS
      refine ⟨_, rfl, _, rfl, l1, rfl, ⟨_, hlS2⟩, fun L hL => ?_⟩
      refine lc_rel (K := K) (l := ts) (R0 := fun v u => Dp K (less p H2) v (dTab u)) (fun v z => v = V.str z) (fun u => some u.1) hL hlS2 (paired_of dpa) ?_ ?_
      · intro j v u H' hv hx hd P
        obtain ⟨ta, cl, rfl, hat, hcd⟩ := dTab_inv hd
        exact ⟨ta, _, rfl, Same.sqT ((less_same p H2).trans P.same) hat, rfl, _, _, rfl, _, _, rfl, rfl, rfl, yes_ ⟨_, rfl, P.step (by omega) (Same.refl _) hx rfl rfl hL⟩⟩
      intro H3 ys s3 h3 d3
      have ey := strs_of d3
      rw [fm_some] at ey
      subst ey
      have p3 := p2.same s3
      have nLp : L ≠ p := p2.ne hL
      have pos := ok.pos
      refine ⟨p, L, _, _, rfl, p3, by decide, SqL.of h3, nLp, by rw [List.length_map, List.length_map]; exact pos, by rw [List.length_map, List.length_map]; omega, fun H4 v k4 p4 hv => ?_⟩
      obtain ⟨st, hst, rfl⟩ := List.mem_map.mp hv
      have hst : st ∈ ts.map Prod.fst := hst
      have k24 : Keep p H2 H4 := (Keep.of s3).trans k4
      refine ⟨_, rfl, _, rfl, _, rfl, _, rfl, p, _, 3, rfl, p4, by decide, by decide, by decide, fun H5 d5 k5 p5 d50 d51 => ?_⟩
      obtain ⟨o, rfl⟩ := Int.eq_ofNat_of_zero_le d50
      have k25 := k24.trans k5
      refine ⟨_, _, rfl, rfl, p, l1, st, 12, 1 + o, _, ts, by simp, p5, by decide, d1.keep k25, ok, hst, by decide, by omega, by omega, fun H6 wq es k6 p6 hwq dw wok hel => ?_⟩
      have k26 := k25.trans k6
      have nwp : wq ≠ p := p5.ne hwq
      refine ⟨_, rfl, p, _, 2, rfl, p6, by decide, by decide, by decide, fun H7 d7 k7 p7 d70 d71 => ⟨rfl, ?_⟩⟩
      generalize htu : decide (V.int d7 = V.int 0) = tu
      have k27 := k26.trans k7
      have dw7 := dw.keep k7
      obtain ⟨_, xw, el, hlW, dpw⟩ := Dp.lst_inv dw7
      cases el
      have hlW7 := (less_same p H7).seq hlW
      have bd := wok.bound ok
      refine ⟨_, rfl, wq, rfl, ⟨_, hlW7⟩, fun L8 hL8 => ?_⟩
      refine lc_rel (K := K) (l := es) (R0 := fun v e => Dp K (less p H7) v (dStp e)) (fun v z => v = V.str z) (fun e => some (wordF tu e)) hL8 hlW7 (paired_of dpw) ?_ ?_
      · intro i v e H' hv hx hd P
        obtain ⟨a, fl, rfl, hat, hfl⟩ := dStp_inv hd
        obtain ⟨_, fs, ef, hfS, dpf⟩ := Dp.lst_inv hfl
        cases ef
        have efs := DpAll.strs_inv dpf
        subst efs
        have hb := bd e (List.mem_of_getElem? hx)
        obtain ⟨w1, w2⟩ := word_bound hb tu
        refine ⟨rfl, yes_ ?_⟩
        have at1 := Same.sqT ((less_same p H7).trans P.same) hat
        refine ⟨_, rfl, a, _, _, _, rfl, rfl, at1, atI_nat (j := 0) rfl, ?_⟩
        refine ⟨_, rfl, a, _, _, _, rfl, rfl, at1, atI_nat (j := 4) rfl, by show 0 ≤ sizeLine; decide, fun e0 he0 => ?_⟩
        generalize e2 : upd H' e0 _ = H2
        have s2 := al_s e2 he0
        have h2 := al_v e2
        clear e2
        have sA := (less_same p H7).trans (P.same.trans s2)
        have fct := wok.facts ok e (List.mem_of_getElem? hx)
        have shf : SeqAt.shaped (.list (e.fl.map PyData.str)) = true := (Shp.lst (n := 0) (shp_strs fun z hz => strOk_word (isFl_word ok (fct.2.2.2.2.2.2 z hz)))).shaped (by decide)
        refine ⟨_, _, Dp.same sA _ _ hfl, dp_lst h2 .nil, shf, shp_nil', _, rfl, ?_⟩
        have es0 : (("" : Str)).length = 0 := by decide +kernel
        have es1 : (("[" : Str)).length = 1 := by decide +kernel
        have es2 : (("]" : Str)).length = 1 := by decide +kernel
        by_cases hf : e.fl = []
        · have ew : wordF tu e = e.nm ++ ("" : Str) := by unfold wordF; rw [if_pos hf]
          rw [hf, List.map_nil, eqv_lst, eqvAll_nn]
          refine iteF ?_
          refine ⟨_, _, rfl, rfl, by rw [es0, sizeLine_eq]; omega, ?_⟩
          exact P.step (by omega) s2 hx rfl (by rw [ew]) hL8
        · have ew : wordF tu e = e.nm ++ (("[" : Str) ++ Txt.join ("," : Str) (if tu = true then e.fl.reverse else e.fl) ++ ("]" : Str)) := by unfold wordF; rw [if_neg hf]
          have en : PyData.eqv (.list (e.fl.map PyData.str)) (.list []) = false := by
            cases e5 : e.fl with
            | nil => exact absurd e5 hf
            | cons _ _ => rw [List.map_cons, eqv_lst, eqvAll_cn]
          rw [en]
          refine iteT ?_
          refine ⟨⟨_, rfl⟩, ?_⟩
          have hsum : (e.fl.map (·.length)).sum + e.fl.length * (("," : Str)).length ≤ 16777216 := by
            have := sum_le hb.2.2
            have hc : (("," : Str)).length = 1 := by decide +kernel
            rw [hc]
            omega
          refine ⟨_, rfl, _, rfl, ?_⟩
          cases tu
          · refine iteF ?_
            refine ⟨_, rfl, a, _, _, _, rfl, rfl, Same.sqT s2 at1, atI_nat (j := 4) rfl, _, _, e.fl, rfl, rfl, .inl (sA.seq hfS), hsum, _, _, rfl, rfl, by rw [es1, sizeLine_eq]; omega, _, _, rfl, rfl, by rw [len_app, es1, es2, sizeLine_eq]; omega, _, _, rfl, rfl, by rw [len_app, len_app, es1, es2, sizeLine_eq]; omega, ?_⟩
            exact P.step (by omega) s2 hx rfl (by rw [ew]; rfl) hL8
          · refine iteT ?_
            refine ⟨_, rfl, a, _, _, _, rfl, rfl, Same.sqT s2 at1, atI_nat (j := 4) rfl, _, _, rfl, sA.seq hfS, fun r hr => ?_⟩
            generalize e3 : upd H2 r _ = H3
            have s3 := al_s e3 hr
            have h3 := al_v e3
            clear e3
            rw [← List.map_reverse] at h3
            have hsr : (e.fl.reverse.map (·.length)).sum + e.fl.reverse.length * (("," : Str)).length ≤ 16777216 := by
              rw [List.map_reverse, List.sum_reverse, List.length_reverse]
              exact hsum
            have w3 := (word_bound (e := { e with fl := e.fl.reverse }) ⟨hb.1, by simpa using hb.2.1, fun f hf => hb.2.2 f (List.mem_reverse.mp hf)⟩ false).2
            have w3 : (Txt.join ("," : Str) e.fl.reverse).length ≤ 60 := w3
            refine ⟨_, _, e.fl.reverse, rfl, rfl, .inl (SqL.of h3), hsr, _, _, rfl, rfl, by rw [es1, sizeLine_eq]; omega, _, _, rfl, rfl, by rw [len_app, es1, es2, sizeLine_eq]; omega, _, _, rfl, rfl, by rw [len_app, len_app, es1, es2, sizeLine_eq]; omega, ?_⟩
            exact P.step (by omega) (s2.trans s3) hx rfl (by rw [ew]; rfl) hL8
      intro H9 ys9 s9 h9 d9
      have ey9 := strs_of d9
      subst ey9
      rw [fm_word] at h9
      obtain ⟨rd8, lo8, wt8⟩ := way_text ok wok hel tu
      obtain ⟨sh1, rd1⟩ := text_read ok
      have tl1 := text_len ok
      have p9 := p7.same s9
      have dl9 := d1.keep (k27.trans (Keep.of s9))
      refine ⟨_, rfl, l1, ts, rfl, Dp.same (less_same _ _) _ _ dl9, ok, fun H10 s10 y1 dy1 ny1 nd1 ne1 => ?_⟩
      refine ⟨y1, dy1, _, ts, rfl, upd_same, by omega, sh1, rd1, fun H11 k11 sc => ⟨rfl, ?_⟩⟩
      have s11 : Same H10 H11 := Same.made ny1 nd1 (fun b o e nb => k11 b o nb e)
      have s9b := s10.trans s11
      have hb8 : ∀ z ∈ es.map (wordF tu), z.length ≤ 1062 := fun z hz => by
        obtain ⟨e, he, rfl⟩ := List.mem_map.mp hz
        exact (word_bound (wok.bound ok e he) tu).1
      generalize hws : es.map (wordF tu) = ws at *
      have hsw : (ws.map (·.length)).sum + ws.length * ((" " : Str)).length ≤ 16777216 := by
        unfold wt at wt8
        rw [sp1]
        omega
      have h11 := s9b _ _ h9
      refine ⟨_, rfl, ⟨_, rfl⟩, _, rfl, _, L8, ws, rfl, rfl, .inl (SqL.of h11), hsw, fun x dx hx hdx ne => ?_⟩
      have s12 : Same H11 (upd (upd H11 dx (.own x)) x (.ins (He.ga K "Way") dx [])) := fun b o e => by
        rw [upd_ne (ne_of_none e hx), upd_ne (ne_of_none e hdx)]
        exact e
      refine ⟨x, y1, dx, _, _, ts, rfl, upd_same, sc.same s12, ok, .inl ⟨_, rfl, lo8, fun i hi => absurd (hi.symm.trans rd8) (fun z => nomatch z), fun es' hes H13 ot hw => ⟨rfl, ?_⟩⟩⟩
      have ees : es' = es := by
        have z := hes.symm.trans rd8
        injection z
      subst ees
      have s13 : Same H11 H13 := fun b o e => ot _ _ (ne_of_none e hx) (s12 _ _ e)
      have s9c := s9b.trans s13
      have dw13 : Dp K H13 (.ref wq) (dWay es') := Dp.same ((less_same p H7).trans (s9.trans s9c)) _ _ dw7
      have sc13 := sc.same s13
      refine ⟨_, rfl, _, rfl, _, rfl, x, y1, wq, _, ts, es', rfl, hw, sc13, ok, dw13, wok, hel, fun H14 s14 => ?_⟩
      refine ⟨_, rfl, iteF ?_⟩
      have hw14 := hw.same s14
      have e0n := wok.head
      obtain ⟨rdF, loF, wtF⟩ := way_text ok wok hel false
      obtain ⟨dx', a1, a2, a3, a4, hx14, _⟩ := id hw14
      refine ⟨_, rfl, _, rfl, x, dx', _, rfl, hx14, x, y1, es', rfl, hw14, e0n, hel, bd, fun H15 s15 => ⟨_, rfl, fun x6 dx6 hx6 hdx6 ne6 => ?_⟩⟩
      have s16 : Same H15 (upd (upd H15 dx6 (.own x6)) x6 (.ins (He.ga K "Way") dx6 [])) := fun b o e => by
        rw [upd_ne (ne_of_none e hx6), upd_ne (ne_of_none e hdx6)]
        exact e
      have s1315 := s14.trans s15
      refine ⟨x6, y1, dx6, _, _, ts, rfl, upd_same, (sc13.same s1315).same s16, ok, .inl ⟨_, rfl, loF, fun i hi => absurd (hi.symm.trans rdF) (fun z => nomatch z), fun es6 hes6 H17 ot6 hw6 => ⟨rfl, ?_⟩⟩⟩
      have ees6 : es6 = es' := by
        have z := hes6.symm.trans rdF
        injection z
      subst ees6
      have s17 : Same H15 H17 := fun b o e => ot6 _ _ (ne_of_none e hx6) (s16 _ _ e)
      have s1317 := s1315.trans s17
      refine ⟨_, rfl, _, rfl, x6, y1, wq, _, ts, es6, rfl, hw6, sc13.same s1317, ok, Dp.same s1317 _ _ dw13, wok, hel, fun H18 s18 => ⟨_, rfl, iteF ?_⟩⟩
      have s1318 := s1317.trans s18
      refine nxt_ ?_
      have p18 : PoolAt H18 p _ := p9.same (s9c.trans s1318)
      have h18 := (s13.trans s1318) _ _ h11
      have hwl : ws.length = es6.length := by rw [← hws, List.length_map]
      have hpos : 0 < ws.length := by rw [hwl]; exact List.length_pos_iff.mpr wok.ne
      have hlm : (ws.map V.str).length = ws.length := List.length_map ..
      have nLp : L8 ≠ p := p7.ne hL8
      refine ⟨_, rfl, _, rfl, L8, _, rfl, .inl (SqL.of h18), p, _, ((ws.map V.str).length : Int), rfl, p18, by decide, by omega, by omega, fun H19 d19 k19 p19 d190 d191 => ?_⟩
      obtain ⟨cu, rfl⟩ := Int.eq_ofNat_of_zero_le d190
      have h19 := k19 _ _ nLp h18
      have k1318 := Keep.of (p := p) s1318
      have k1319 := k1318.trans k19
      have sc19 := SchAt.but sc13 (p9.same s9c) k1319
      have hw19 := hw.keep k1319 (p9.same s9c)
      have dwL : Dp K (less p H19) (.ref wq) (dWay es6) := Dp.same (less_keep ((Keep.of (s9.trans s9c)).trans k1319)) _ _ dw7
      have dw19 : Dp K H19 (.ref wq) (dWay es6) := Dp.same (less_same _ _) _ _ dwL
      refine nm_ (mknx_ ?_)
      refine asg_k (fun v H' => Same H19 H' ∧ (v = .non ∨ ∃ x', v = .ref x' ∧ WayAt K H' x' y1 es6)) (fun v H20 hv => ?_) (fun hQ => ?_)
      · obtain ⟨s20, hv⟩ := hv
        refine nm_ ?_
        refine ifs_k (fun b H' => b = false ∧ Same H20 H') (fun b H21 hb => ?_) (fun hQ => ?_)
        · obtain ⟨rfl, s21⟩ := hb
          refine iteF (nxt_ (mknx_ ?_))
          have s1921 := s20.trans s21
          have h21 := s1921 _ _ h19
          refine ifs_k (fun b H' => b = false ∧ Same H21 H') (fun b H22 hb => ?_) (fun hQ => ?_)
          · obtain ⟨rfl, s22⟩ := hb
            refine iteF (nxt_ (mknx_ ?_))
            have hw22 := hw19.same (s1921.trans s22)
            obtain ⟨dx'', b1, b2, b3, b4, hx22, hb1, hb2, hb3, hb4⟩ := id hw22
            refine ⟨_, rfl, x, _, dx'', _, _, rfl, hx22, W.cl, W.tables, rfl, ?_⟩
            refine ⟨_, _, _, _, true, rfl, .ty "tuple", ty_T (SqT.of hb1), kit_ty (by decide +kernel), _, rfl, iteF ?_⟩
            have hb2' := Dp.same (tups_in H22) _ _ hb2
            obtain ⟨_, xa, eb, hba, dpa2⟩ := Dp.tup_inv hb2'
            cases eb
            obtain ⟨e0, er, ee, _⟩ := e0n
            rw [ee] at dpa2
            cases dpa2 with
            | cons da db =>
              refine ⟨_, rfl, x, _, dx'', _, _, rfl, hx22, W.cl, W.asked, rfl, b2, _, _, _, rfl, rfl, hba, atI_nat (j := 0) rfl, ?_⟩
              refine ⟨_, _, _, _, true, rfl, .ty "tuple", ty_dp da, isi_tup _, _, rfl, iteF (nxt_ ?_)⟩
              exact ⟨_, _, _, _, _, _, _, _, _, _, _, _, _, _, rfl, s0.trans (fun b o q => by
                have nb : b ≠ p := ne_of_none q np
                exact ((k2.trans k27).trans ((Keep.of (s9.trans s9c)).trans (k1319.trans (Keep.of (s1921.trans s22))))) _ _ nb (s1 _ _ q))⟩
          · refine ⟨rfl, _, rfl, ⟨_, rfl⟩, _, rfl, _, L8, ws, rfl, rfl, .inl (SqL.of h21), hsw, ?_⟩
            refine ⟨[_, _], [_], rfl, rfl, by show 1 ≤ sizeLine; decide, fun q hq => ?_⟩
            generalize e22 : upd H21 q _ = H22
            have s22 := al_s e22 hq
            have h22 := al_v e22
            clear e22
            have ej : Txt.join (" " : Str) [Txt.join (" " : Str) ws] = Txt.join (" " : Str) ws := by
              refine ext_tl ?_
              simp only [join_eq, tl_join, List.map_cons, List.map_nil]
              rfl
            have s1922 := s1921.trans s22
            refine ⟨y1, q, _, ts, [Txt.join (" " : Str) ws], rfl, sc19.same s1922, ok, h22, ?_, by rw [ej]; exact lo8, fun i hi => ?_, fun es' hes H23 x' s23 hw' => ?_⟩
            · have b1 := join_le sp1 ws
              show _ + _ ≤ _
              simp only [List.map_cons, List.map_nil, List.sum_cons, List.sum_nil, List.length_cons, List.length_nil]
              omega
            · rw [ej] at hi
              exact absurd (hi.symm.trans rd8) (fun z => nomatch z)
            · rw [ej] at hes
              have z := hes.symm.trans rd8
              injection z with z
              subst z
              have s1923 := s1922.trans s23
              exact ⟨_, rfl, _, rfl, x', y1, wq, _, ts, _, rfl, hw', sc19.same s1923, ok, Dp.same s1923 _ _ dw19, wok, hel, fun H24 s24 => ⟨_, rfl, hQ _ _ ⟨rfl, (s22.trans s23).trans s24⟩⟩⟩
        · rcases hv with rfl | ⟨x', rfl, hw'⟩
          · refine ⟨_, rfl, rfl, _, rfl, ?_⟩
            rw [decide_eq_true rfl]
            exact iteF (hQ _ _ ⟨rfl, Same.refl _⟩)
          · refine ⟨_, rfl, rfl, _, rfl, ?_⟩
            rw [decide_eq_false (fun z => nomatch z)]
            exact iteT ⟨_, rfl, _, rfl, _, rfl, x', y1, wq, _, ts, es6, rfl, hw', sc19.same s20, ok, Dp.same s20 _ _ dw19, wok, hel, fun H21 s21 => ⟨_, rfl, hQ _ _ ⟨rfl, s21⟩⟩⟩
      refine ⟨_, rfl, _, _, rfl, rfl, _, rfl, L8, _, rfl, .inl (SqL.of h19), _, _, rfl, rfl, ?_⟩
      refine ⟨_, rfl, ite2 (fun hcu => ?_) (fun hcu => ?_)⟩
      · have hcu : (cu : Int) + 1 < ((ws.map V.str).length : Int) := of_decide_eq_true hcu
        have hcu : cu + 1 < ws.length := by omega
        have ec1 : cutV (ws.map V.str) none (some ((cu : Int) + 1)) = (ws.take (cu + 1)).map V.str := by
          rw [show (cu : Int) + 1 = ((cu + 1 : Nat) : Int) from rfl, cut_to, List.map_take]
        have ec2 : cutV (ws.map V.str) (some ((cu : Int) + 1)) none = (ws.drop (cu + 1)).map V.str := by
          rw [show (cu : Int) + 1 = ((cu + 1 : Nat) : Int) from rfl, cut_from, List.map_drop]
        refine ⟨rfl, _, rfl, ⟨_, rfl⟩, _, rfl, _, rfl, _, _, rfl, rfl, _, rfl, L8, _, rfl, SqL.of h19, fun c1 hc1 => ?_⟩
        generalize e20 : upd H19 c1 _ = H20
        have s20 := al_s e20 hc1
        have h20 := al_v e20
        clear e20
        rw [ec1] at h20
        have bt : ∀ l : List Str, (∀ z ∈ l, z ∈ ws) → l.length ≤ ws.length → (l.map (·.length)).sum + l.length * ((" " : Str)).length ≤ 16777216 := fun l hm hl => by
          have := sum_le (l := l) (m := 1062) fun z hz => hb8 z (hm z hz)
          rw [sp1]
          omega
        refine ⟨_, c1, ws.take (cu + 1), rfl, rfl, .inl (SqL.of h20), bt _ (fun z hz => List.mem_of_mem_take hz) (by rw [List.length_take]; omega), ?_⟩
        refine ⟨⟨_, rfl⟩, _, rfl, _, rfl, _, _, rfl, rfl, _, rfl, L8, _, rfl, SqL.of (s20 _ _ h19), fun c2 hc2 => ?_⟩
        generalize e21 : upd H20 c2 _ = H21
        have s21 := al_s e21 hc2
        have h21 := al_v e21
        clear e21
        rw [ec2] at h21
        refine ⟨_, c2, ws.drop (cu + 1), rfl, rfl, .inl (SqL.of h21), bt _ (fun z hz => List.mem_of_mem_drop hz) (by rw [List.length_drop]; omega), ?_⟩
        refine ⟨[_, _], [_, _], rfl, rfl, by show 2 ≤ sizeLine; decide, fun q hq => ?_⟩
        generalize e22 : upd H21 q _ = H22
        have s22 := al_s e22 hq
        have h22 := al_v e22
        clear e22
        have s1922 := s20.trans (s21.trans s22)
        have ej := join_two (ws := ws) (k := cu + 1) (by omega) hcu
        refine ⟨y1, q, _, ts, [Txt.join (" " : Str) (ws.take (cu + 1)), Txt.join (" " : Str) (ws.drop (cu + 1))], rfl, sc19.same s1922, ok, h22, ?_, by rw [ej]; exact lo8, fun i hi => ?_, fun es' hes H23 x' s23 hw' => hQ _ _ ⟨s1922.trans s23, .inr ⟨x', rfl, ?_⟩⟩⟩
        · have b1 := join_le sp1 (ws.take (cu + 1))
          have b2 := join_le sp1 (ws.drop (cu + 1))
          have b3 := sum_le (l := ws.take (cu + 1)) (m := 1062) fun z hz => hb8 z (List.mem_of_mem_take hz)
          have b4 := sum_le (l := ws.drop (cu + 1)) (m := 1062) fun z hz => hb8 z (List.mem_of_mem_drop hz)
          rw [List.length_take] at b3
          rw [List.length_drop] at b4
          unfold wt at b1 b2 ⊢
          rw [List.length_take] at b1
          rw [List.length_drop] at b2
          simp only [List.map_cons, List.map_nil, List.sum_cons, List.sum_nil, List.length_cons, List.length_nil]
          omega
        · rw [ej] at hi
          exact absurd (hi.symm.trans rd8) (fun z => nomatch z)
        · rw [ej] at hes
          have z := hes.symm.trans rd8
          injection z with z
          rw [← z]
          exact hw'
      · exact hQ _ _ ⟨Same.refl _, .inl rfl⟩
    · rintro σ H0 ⟨x1, x2, x3, x4, x5, x6, x7, x8, x9, x10, x11, x12, x13, x14, rfl, s0⟩
      exact k _
end
end Ow

/-! k18: the end -/
namespace Ow
open PySem PySem.Spec L2 NdefX
theorem ib_BadWay (cl : List (Str × Addr)) (c : Addr) : IniBody Pr (nfOf "BadWay.__init__" s_BadWay___init__ cl c) [("at" : Str)] where
  sc := show NScope (nsOf [("at" : Str)]) (psOf [("at" : Str)]) clsN (defScope s_BadWay___init__) from nscope_by (by decide +kernel)
  sup := show (defScope s_BadWay___init__).names.lookup ("super" : Str) = some .globalImplicit from by decide +kernel
  top := by decide +kernel
  par := ⟨_, rfl, rfl⟩
  dbg := by decide +kernel
  int := fun _ _ => rfl
  body := ⟨_, _, _, _, _, _, _, _, _, rfl, .cons .nil, fun _ _ => by rfl⟩
section
variable {K : PySem.W.Frag} {h : Heap} {mg : Str → Option Value}
theorem t_is_word (X : K.In h) (G : h.Ns mainGlobals mg) (c : SaysP fa fn mt pt exK K) : TopD K mg "is_word" s_is_word := by
  obtain ⟨fd, F⟩ := c.d.def_ 0 (d := d_is_word) rfl
  exact ⟨_, fd, F, He.glo_ok X G (c.d.fact 20 (f := .glo "is_word") rfl)⟩
theorem t_named_tables (X : K.In h) (G : h.Ns mainGlobals mg) (c : SaysP fa fn mt pt exK K) : TopD K mg "named_tables" s_named_tables := by
  obtain ⟨fd, F⟩ := c.d.def_ 1 (d := d_named_tables) rfl
  exact ⟨_, fd, F, He.glo_ok X G (c.d.fact 21 (f := .glo "named_tables") rfl)⟩
theorem t_column_of (X : K.In h) (G : h.Ns mainGlobals mg) (c : SaysP fa fn mt pt exK K) : TopD K mg "column_of" s_column_of := by
  obtain ⟨fd, F⟩ := c.d.def_ 2 (d := d_column_of) rfl
  exact ⟨_, fd, F, He.glo_ok X G (c.d.fact 22 (f := .glo "column_of") rfl)⟩
theorem t_read_tables (X : K.In h) (G : h.Ns mainGlobals mg) (c : SaysP fa fn mt pt exK K) : TopD K mg "read_tables" s_read_tables := by
  obtain ⟨fd, F⟩ := c.d.def_ 3 (d := d_read_tables) rfl
  exact ⟨_, fd, F, He.glo_ok X G (c.d.fact 23 (f := .glo "read_tables") rfl)⟩
theorem t_read_flags (X : K.In h) (G : h.Ns mainGlobals mg) (c : SaysP fa fn mt pt exK K) : TopD K mg "read_flags" s_read_flags := by
  obtain ⟨fd, F⟩ := c.d.def_ 4 (d := d_read_flags) rfl
  exact ⟨_, fd, F, He.glo_ok X G (c.d.fact 24 (f := .glo "read_flags") rfl)⟩
theorem t_is_link (X : K.In h) (G : h.Ns mainGlobals mg) (c : SaysP fa fn mt pt exK K) : TopD K mg "is_link" s_is_link := by
  obtain ⟨fd, F⟩ := c.d.def_ 5 (d := d_is_link) rfl
  exact ⟨_, fd, F, He.glo_ok X G (c.d.fact 25 (f := .glo "is_link") rfl)⟩
theorem t_read_move (X : K.In h) (G : h.Ns mainGlobals mg) (c : SaysP fa fn mt pt exK K) : TopD K mg "read_move" s_read_move := by
  obtain ⟨fd, F⟩ := c.d.def_ 6 (d := d_read_move) rfl
  exact ⟨_, fd, F, He.glo_ok X G (c.d.fact 26 (f := .glo "read_move") rfl)⟩
theorem t_split_word (X : K.In h) (G : h.Ns mainGlobals mg) (c : SaysP fa fn mt pt exK K) : TopD K mg "split_word" s_split_word := by
  obtain ⟨fd, F⟩ := c.d.def_ 7 (d := d_split_word) rfl
  exact ⟨_, fd, F, He.glo_ok X G (c.d.fact 27 (f := .glo "split_word") rfl)⟩
theorem t_written (X : K.In h) (G : h.Ns mainGlobals mg) (c : SaysP fa fn mt pt exK K) : TopD K mg "written" s_written := by
  obtain ⟨fd, F⟩ := c.d.def_ 8 (d := d_written) rfl
  exact ⟨_, fd, F, He.glo_ok X G (c.d.fact 28 (f := .glo "written") rfl)⟩
theorem t_law_pool (X : K.In h) (G : h.Ns mainGlobals mg) (c : SaysP fa fn mt pt exK K) : TopD K mg "_law_pool" s_law_pool := by
  obtain ⟨fd, F⟩ := c.d.def_ 9 (d := d_law_pool) rfl
  exact ⟨_, fd, F, He.glo_ok X G (c.d.fact 29 (f := .glo "_law_pool") rfl)⟩
theorem t_law_draw (X : K.In h) (G : h.Ns mainGlobals mg) (c : SaysP fa fn mt pt exK K) : TopD K mg "_law_draw" s_law_draw := by
  obtain ⟨fd, F⟩ := c.d.def_ 10 (d := d_law_draw) rfl
  exact ⟨_, fd, F, He.glo_ok X G (c.d.fact 30 (f := .glo "_law_draw") rfl)⟩
theorem t_law_of (X : K.In h) (G : h.Ns mainGlobals mg) (c : SaysP fa fn mt pt exK K) : TopD K mg "_law_of" s_law_of := by
  obtain ⟨fd, F⟩ := c.d.def_ 11 (d := d_law_of) rfl
  exact ⟨_, fd, F, He.glo_ok X G (c.d.fact 31 (f := .glo "_law_of") rfl)⟩
theorem t_law_letters (X : K.In h) (G : h.Ns mainGlobals mg) (c : SaysP fa fn mt pt exK K) : TopD K mg "_law_letters" s_law_letters := by
  obtain ⟨fd, F⟩ := c.d.def_ 12 (d := d_law_letters) rfl
  exact ⟨_, fd, F, He.glo_ok X G (c.d.fact 32 (f := .glo "_law_letters") rfl)⟩
theorem t_law_word (X : K.In h) (G : h.Ns mainGlobals mg) (c : SaysP fa fn mt pt exK K) : TopD K mg "_law_word" s_law_word := by
  obtain ⟨fd, F⟩ := c.d.def_ 13 (d := d_law_word) rfl
  exact ⟨_, fd, F, He.glo_ok X G (c.d.fact 33 (f := .glo "_law_word") rfl)⟩
theorem t_law_tables (X : K.In h) (G : h.Ns mainGlobals mg) (c : SaysP fa fn mt pt exK K) : TopD K mg "_law_tables" s_law_tables := by
  obtain ⟨fd, F⟩ := c.d.def_ 14 (d := d_law_tables) rfl
  exact ⟨_, fd, F, He.glo_ok X G (c.d.fact 34 (f := .glo "_law_tables") rfl)⟩
theorem t_law_text (X : K.In h) (G : h.Ns mainGlobals mg) (c : SaysP fa fn mt pt exK K) : TopD K mg "_law_text" s_law_text := by
  obtain ⟨fd, F⟩ := c.d.def_ 15 (d := d_law_text) rfl
  exact ⟨_, fd, F, He.glo_ok X G (c.d.fact 35 (f := .glo "_law_text") rfl)⟩
theorem t_law_columns (X : K.In h) (G : h.Ns mainGlobals mg) (c : SaysP fa fn mt pt exK K) : TopD K mg "_law_columns" s_law_columns := by
  obtain ⟨fd, F⟩ := c.d.def_ 16 (d := d_law_columns) rfl
  exact ⟨_, fd, F, He.glo_ok X G (c.d.fact 36 (f := .glo "_law_columns") rfl)⟩
theorem t_law_moves (X : K.In h) (G : h.Ns mainGlobals mg) (c : SaysP fa fn mt pt exK K) : TopD K mg "_law_moves" s_law_moves := by
  obtain ⟨fd, F⟩ := c.d.def_ 17 (d := d_law_moves) rfl
  exact ⟨_, fd, F, He.glo_ok X G (c.d.fact 37 (f := .glo "_law_moves") rfl)⟩
theorem t_law_asked (X : K.In h) (G : h.Ns mainGlobals mg) (c : SaysP fa fn mt pt exK K) : TopD K mg "_law_asked" s_law_asked := by
  obtain ⟨fd, F⟩ := c.d.def_ 18 (d := d_law_asked) rfl
  exact ⟨_, fd, F, He.glo_ok X G (c.d.fact 38 (f := .glo "_law_asked") rfl)⟩
theorem t_law_way (X : K.In h) (G : h.Ns mainGlobals mg) (c : SaysP fa fn mt pt exK K) : TopD K mg "_law_way" s_law_way := by
  obtain ⟨fd, F⟩ := c.d.def_ 19 (d := d_law_way) rfl
  exact ⟨_, fd, F, He.glo_ok X G (c.d.fact 39 (f := .glo "_law_way") rfl)⟩
theorem t_law_written (X : K.In h) (G : h.Ns mainGlobals mg) (c : SaysP fa fn mt pt exK K) : TopD K mg "_law_written" s_law_written := by
  obtain ⟨fd, F⟩ := c.d.def_ 20 (d := d_law_written) rfl
  exact ⟨_, fd, F, He.glo_ok X G (c.d.fact 40 (f := .glo "_law_written") rfl)⟩
theorem t_law_is_told (X : K.In h) (G : h.Ns mainGlobals mg) (c : SaysP fa fn mt pt exK K) : TopD K mg "_law_is_told" s_law_is_told := by
  obtain ⟨fd, F⟩ := c.d.def_ 21 (d := d_law_is_told) rfl
  exact ⟨_, fd, F, He.glo_ok X G (c.d.fact 41 (f := .glo "_law_is_told") rfl)⟩
theorem t_Schema___init__ (c : SaysP fa fn mt pt exK K) : MtD K "Schema" "__init__" "Schema.__init__" s_Schema___init__ := by
  obtain ⟨fd, F⟩ := c.d.def_ 23 (d := d_Schema___init__) rfl
  exact ⟨_, fd, F, He.meth_ok (c.d.fact 68 (f := .meth "Schema" "__init__") rfl)⟩
theorem t_Schema_columns (c : SaysP fa fn mt pt exK K) : MtD K "Schema" "columns" "Schema.columns" s_Schema_columns := by
  obtain ⟨fd, F⟩ := c.d.def_ 24 (d := d_Schema_columns) rfl
  exact ⟨_, fd, F, He.meth_ok (c.d.fact 69 (f := .meth "Schema" "columns") rfl)⟩
theorem t_Schema_told (c : SaysP fa fn mt pt exK K) : MtD K "Schema" "told" "Schema.told" s_Schema_told := by
  obtain ⟨fd, F⟩ := c.d.def_ 25 (d := d_Schema_told) rfl
  exact ⟨_, fd, F, He.meth_ok (c.d.fact 70 (f := .meth "Schema" "told") rfl)⟩
theorem t_Schema_kind (c : SaysP fa fn mt pt exK K) : MtD K "Schema" "kind" "Schema.kind" s_Schema_kind := by
  obtain ⟨fd, F⟩ := c.d.def_ 26 (d := d_Schema_kind) rfl
  exact ⟨_, fd, F, He.meth_ok (c.d.fact 71 (f := .meth "Schema" "kind") rfl)⟩
theorem t_Schema_target (c : SaysP fa fn mt pt exK K) : MtD K "Schema" "target" "Schema.target" s_Schema_target := by
  obtain ⟨fd, F⟩ := c.d.def_ 27 (d := d_Schema_target) rfl
  exact ⟨_, fd, F, He.meth_ok (c.d.fact 72 (f := .meth "Schema" "target") rfl)⟩
theorem t_Schema_rule (c : SaysP fa fn mt pt exK K) : MtD K "Schema" "rule" "Schema.rule" s_Schema_rule := by
  obtain ⟨fd, F⟩ := c.d.def_ 28 (d := d_Schema_rule) rfl
  exact ⟨_, fd, F, He.meth_ok (c.d.fact 73 (f := .meth "Schema" "rule") rfl)⟩
theorem t_Schema___len__ (c : SaysP fa fn mt pt exK K) : MtD K "Schema" "__len__" "Schema.__len__" s_Schema___len__ := by
  obtain ⟨fd, F⟩ := c.d.def_ 29 (d := d_Schema___len__) rfl
  exact ⟨_, fd, F, He.meth_ok (c.d.fact 74 (f := .meth "Schema" "__len__") rfl)⟩
theorem t_Schema___str__ (c : SaysP fa fn mt pt exK K) : MtD K "Schema" "__str__" "Schema.__str__" s_Schema___str__ := by
  obtain ⟨fd, F⟩ := c.d.def_ 30 (d := d_Schema___str__) rfl
  exact ⟨_, fd, F, He.meth_ok (c.d.fact 75 (f := .meth "Schema" "__str__") rfl)⟩
theorem t_Schema___eq__ (c : SaysP fa fn mt pt exK K) : MtD K "Schema" "__eq__" "Schema.__eq__" s_Schema___eq__ := by
  obtain ⟨fd, F⟩ := c.d.def_ 31 (d := d_Schema___eq__) rfl
  exact ⟨_, fd, F, He.meth_ok (c.d.fact 76 (f := .meth "Schema" "__eq__") rfl)⟩
theorem t_Schema___contains__ (c : SaysP fa fn mt pt exK K) : MtD K "Schema" "__contains__" "Schema.__contains__" s_Schema___contains__ := by
  obtain ⟨fd, F⟩ := c.d.def_ 32 (d := d_Schema___contains__) rfl
  exact ⟨_, fd, F, He.meth_ok (c.d.fact 77 (f := .meth "Schema" "__contains__") rfl)⟩
theorem t_Way___init__ (c : SaysP fa fn mt pt exK K) : MtD K "Way" "__init__" "Way.__init__" s_Way___init__ := by
  obtain ⟨fd, F⟩ := c.d.def_ 33 (d := d_Way___init__) rfl
  exact ⟨_, fd, F, He.meth_ok (c.d.fact 78 (f := .meth "Way" "__init__") rfl)⟩
theorem t_Way___len__ (c : SaysP fa fn mt pt exK K) : MtD K "Way" "__len__" "Way.__len__" s_Way___len__ := by
  obtain ⟨fd, F⟩ := c.d.def_ 34 (d := d_Way___len__) rfl
  exact ⟨_, fd, F, He.meth_ok (c.d.fact 79 (f := .meth "Way" "__len__") rfl)⟩
theorem t_Way___str__ (c : SaysP fa fn mt pt exK K) : MtD K "Way" "__str__" "Way.__str__" s_Way___str__ := by
  obtain ⟨fd, F⟩ := c.d.def_ 35 (d := d_Way___str__) rfl
  exact ⟨_, fd, F, He.meth_ok (c.d.fact 80 (f := .meth "Way" "__str__") rfl)⟩
theorem t_Way_is_straight (c : SaysP fa fn mt pt exK K) : PrD K "Way" "is_straight" "Way.is_straight" s_Way_is_straight := by
  have b := (He.ba (He.ba (He.ba c.x).2).2).1
  exact prB_ok (He.ba b).1 (c.pth (d := p_Way_is_straight) (List.mem_of_getElem? (i := 0) rfl))
theorem t_Way_of (c : SaysP fa fn mt pt exK K) : CmD K "Way" "of" "Way.of" s_Way_of := by
  have b := (He.ba (He.ba (He.ba c.x).2).2).1
  have b := (He.ba b).2
  exact cmB_ok b (c.pth (d := p_Way_of) (List.mem_of_getElem? (i := 1) rfl))
theorem blt (X : K.In h) (G : h.Ns mainGlobals mg) (c : SaysP fa fn mt pt exK K) : Blt mg :=
  ⟨He.free_ok X G (c.d.fact 0 (f := .free "len") rfl), He.free_ok X G (c.d.fact 1 (f := .free "abs") rfl), He.free_ok X G (c.d.fact 2 (f := .free "int") rfl), He.free_ok X G (c.d.fact 3 (f := .free "range") rfl), He.free_ok X G (c.d.fact 4 (f := .free "max") rfl), He.free_ok X G (c.d.fact 5 (f := .free "min") rfl), He.free_ok X G (c.d.fact 6 (f := .free "isinstance") rfl), He.free_ok X G (c.d.fact 7 (f := .free "tuple") rfl), He.free_ok X G (c.d.fact 8 (f := .free "repr") rfl)⟩
theorem exs (c : SaysP fa fn mt pt exK K) : (He.tupB K "BARRED" [.str ("key" : Str), .str ("self" : Str), .str ("table" : Str)] = true ∧ He.tupB K "RULES" [.str ("refuse" : Str), .str ("clear" : Str), .str ("cascade" : Str)] = true) ∧ insB K = true ∧ othB K = true ∧ neB K = true :=
  have b := He.ba (He.ba c.x).1
  have b2 := He.ba b.2
  have b3 := He.ba b2.2
  ⟨He.ba b.1, b2.1, b3.1, b3.2⟩
theorem scc (X : K.In h) (G : h.Ns mainGlobals mg) (c : SaysP fa fn mt pt exK K) : ScC K mg :=
  ⟨He.str_ok X G (c.d.fact 49 (f := .str "LETTERS" LET) rfl), He.int_ok X G (c.d.fact 50 (f := .int "MOST_TABLES" 5) rfl), He.int_ok X G (c.d.fact 51 (f := .int "MOST_COLUMNS" 6) rfl), He.str_ok X G (c.d.fact 52 (f := .str "VALUE" ("value" : Str)) rfl), He.str_ok X G (c.d.fact 53 (f := .str "FLAG" ("flag" : Str)) rfl), He.str_ok X G (c.d.fact 54 (f := .str "LINK" ("link" : Str)) rfl),
   ⟨_, He.glo_ok X G (c.d.fact 55 (f := .glo "BARRED") rfl), He.tupB_ok (exs c).1.1⟩, ⟨_, He.glo_ok X G (c.d.fact 56 (f := .glo "RULES") rfl), He.tupB_ok (exs c).1.2⟩,
   He.free_ok X G (c.d.fact 9 (f := .free "all") rfl), He.free_ok X G (c.d.fact 10 (f := .free "enumerate") rfl), He.free_ok X G (c.d.fact 11 (f := .free "str") rfl), He.free_ok X G (c.d.fact 6 (f := .free "isinstance") rfl), He.free_ok X G (c.d.fact 7 (f := .free "tuple") rfl), He.free_ok X G (c.d.fact 0 (f := .free "len") rfl), He.free_ok X G (c.d.fact 12 (f := .free "any") rfl), He.free_ok X G (c.d.fact 13 (f := .free "list") rfl)⟩
theorem scs (X : K.In h) (G : h.Ns mainGlobals mg) (c : SaysP fa fn mt pt exK K) : ScS K mg :=
  ⟨He.glo_ok X G (c.d.fact 43 (f := .glo "Schema") rfl), He.cls_ok (c.d.fact 44 (f := .cls "Schema") rfl), ⟨_, He.mkr_ok (c.d.fact 45 (f := .mkr "Schema") rfl)⟩, He.noat_ok (c.d.fact 46 (f := .noat "Schema" "text") rfl), He.noat_ok (c.d.fact 47 (f := .noat "Schema" "found") rfl), He.noat_ok (c.d.fact 48 (f := .noat "Schema" "tables") rfl)⟩
theorem sci (c : SaysP fa fn mt pt exK K) : ScI K := by
  obtain ⟨_, hi, ho, hn⟩ := exs c
  obtain ⟨i1, hi⟩ := He.ba hi
  obtain ⟨i2, hi⟩ := He.ba hi
  obtain ⟨i3, hi⟩ := He.ba hi
  obtain ⟨i4, i5⟩ := He.ba hi
  refine ⟨fun e => .base (.ins e (He.cls_ok (c.d.fact 44 (f := .cls "Schema") rfl)) (of_decide_eq_true i1) (of_decide_eq_true i2) (of_decide_eq_true i3) (of_decide_eq_true i4)), of_decide_eq_true i5, fun T hT => ?_, ?_⟩
  · have q := List.all_eq_true.mp ho T hT
    obtain ⟨q1, q2⟩ := He.ba q
    exact ⟨of_decide_eq_true q1, q2⟩
  · obtain ⟨n1, n2⟩ := He.ba hn
    exact ⟨of_decide_eq_true n1, of_decide_eq_true n2⟩
theorem f_W (X : K.In h) (G : h.Ns mainGlobals mg) (c : SaysP fa fn mt pt exK K) : WyS K mg :=
  ⟨He.glo_ok X G (c.d.fact 58 (f := .glo "Way") rfl), He.cls_ok (c.d.fact 59 (f := .cls "Way") rfl), ⟨_, He.mkr_ok (c.d.fact 60 (f := .mkr "Way") rfl)⟩, He.noat_ok (c.d.fact 61 (f := .noat "Way" "schema") rfl), He.noat_ok (c.d.fact 62 (f := .noat "Way" "start") rfl), He.noat_ok (c.d.fact 63 (f := .noat "Way" "end") rfl), He.noat_ok (c.d.fact 64 (f := .noat "Way" "tables") rfl), He.noat_ok (c.d.fact 65 (f := .noat "Way" "asked") rfl), He.noat_ok (c.d.fact 66 (f := .noat "Way" "steps") rfl), He.noat_ok (c.d.fact 67 (f := .noat "Way" "moves") rfl)⟩
theorem f_Y (X : K.In h) (G : h.Ns mainGlobals mg) (c : SaysP fa fn mt pt exK K) : WyC mg :=
  ⟨He.free_ok X G (c.d.fact 16 (f := .free "set") rfl), He.free_ok X G (c.d.fact 17 (f := .free "sorted") rfl), He.free_ok X G (c.d.fact 18 (f := .free "zip") rfl), He.free_ok X G (c.d.fact 19 (f := .free "bool") rfl), He.int_ok X G (c.d.fact 57 (f := .int "MOST_STEPS" 12) rfl)⟩
theorem exf (X : K.In h) (G : h.Ns mainGlobals mg) (c : SaysP fa fn mt pt exK K) : ExW Pr K mg := by
  have b := He.ba (He.ba (He.ba c.x).2).1
  obtain ⟨b0, b1⟩ := He.ba b.1
  have e0 := b1
  have c0 : ClsAt Pr K mg "BadWay" "BadWay.__init__" s_BadWay___init__ [("at" : Str)] := excB_ok X G b0 e0 (by decide) (c.mth (d := m_BadWay) (List.mem_of_getElem? (i := 0) rfl)) ib_BadWay
  exact ⟨c0⟩
theorem facts {w : World} {f : Addr} (X : K.In h) (G : h.Ns mainGlobals mg) (hfa : mg ("law" : Str) = some (.ref f)) (c : SaysP fa fn mt pt exK K) :
    ∃ fd : FuncData, (∀ (s : Shared) (v : Value), BindsTo s fd ⟨[v], []⟩ [(("_law_script" : Str), v)]) ∧ ∀ base : Heap, K.In base → base.Ns mainGlobals mg → FnG Pr w K mg base 9 f fd [("_law_script" : Str)] (spLaw K) := by
  obtain ⟨fd, F⟩ := c.d.def_ 22 (d := d_law) rfl
  have e := hfa.symm.trans (He.glo_ok X G (c.d.fact 42 (f := .glo "law") rfl))
  cases e
  have b := FunD.bindsA (ps := [("_law_script" : Str)]) F fun _ _ _ _ _ _ us hl => match us, hl with | [_], _ => rfl
  have T := blt X G c
  have M := scc X G c
  have S := scs X G c
  have SI := sci c
  have W := f_W X G c
  have Y := f_Y X G c
  have C := exf X G c
  refine ⟨fd, fun s v => b s [v] rfl, fun base _ _ => ?_⟩
  have R_is_word := ok_is_word (P := Pr) (w := w) (K := K) (mg := mg) (base := base) (t_is_word X G c) T M
  have R_named_tables := ok_named (P := Pr) (w := w) (K := K) (mg := mg) (base := base) (t_named_tables X G c) T M R_is_word
  have R_column_of := ok_col (P := Pr) (w := w) (K := K) (mg := mg) (base := base) (t_column_of X G c) T M R_is_word
  have R_read_tables := ok_read (P := Pr) (w := w) (K := K) (mg := mg) (base := base) (t_read_tables X G c) T M R_is_word R_named_tables R_column_of
  have R_Schema___init__ := ok_init (P := Pr) (w := w) (K := K) (mg := mg) (base := base) (t_Schema___init__ c) T M S R_read_tables
  have R_Schema_columns := ok_columns (P := Pr) (w := w) (K := K) (mg := mg) (base := base) (t_Schema_columns c) T M S
  have R_Schema_told := ok_told (P := Pr) (w := w) (K := K) (mg := mg) (base := base) (t_Schema_told c) T M S R_Schema_columns
  have R_Schema_kind := ok_kind (P := Pr) (w := w) (K := K) (mg := mg) (base := base) (t_Schema_kind c) T M S R_Schema_told
  have R_Schema_target := ok_target (P := Pr) (w := w) (K := K) (mg := mg) (base := base) (t_Schema_target c) T M S R_Schema_told
  have R_Schema_rule := ok_rule (P := Pr) (w := w) (K := K) (mg := mg) (base := base) (t_Schema_rule c) T M S R_Schema_told
  have R_Schema___len__ := ok_len (P := Pr) (w := w) (K := K) (mg := mg) (base := base) (t_Schema___len__ c) T M S
  have R_Schema___str__ := ok_str (P := Pr) (w := w) (K := K) (mg := mg) (base := base) (t_Schema___str__ c) T M S
  have R_Schema___eq__ := ok_eq (P := Pr) (w := w) (K := K) (mg := mg) (base := base) (t_Schema___eq__ c) T M S SI
  have R_Schema___contains__ := ok_in (P := Pr) (w := w) (K := K) (mg := mg) (base := base) (t_Schema___contains__ c) T M S
  have R_is_link := ok_is_link (P := Pr) (w := w) (K := K) (mg := mg) (base := base) (t_is_link X G c) T M S R_Schema___contains__ R_Schema_kind
  have R_read_move := ok_read_move (P := Pr) (w := w) (K := K) (mg := mg) (base := base) (t_read_move X G c) T M S R_is_link R_Schema_target
  have R_split_word := ok_split_word (P := Pr) (w := w) (K := K) (mg := mg) (base := base) (t_split_word X G c) T M
  have R_read_flags := ok_read_flags (P := Pr) (w := w) (K := K) (mg := mg) (base := base) (t_read_flags X G c) T M S Y R_Schema___contains__ R_Schema_kind
  have R_Way___init__ := ok_way (P := Pr) (w := w) (K := K) (mg := mg) (base := base) (t_Way___init__ c) T M S W Y C R_split_word R_read_flags R_read_move
  have R_written := ok_written (P := Pr) (w := w) (K := K) (mg := mg) (base := base) (t_written X G c) T M Y
  have R_Way_is_straight := ok_strt (P := Pr) (w := w) (K := K) (mg := mg) (base := base) (t_Way_is_straight c) T M W Y
  have R_Way___len__ := ok_wlen (P := Pr) (w := w) (K := K) (mg := mg) (base := base) (t_Way___len__ c) T M W
  have R_Way___str__ := ok_wstr (P := Pr) (w := w) (K := K) (mg := mg) (base := base) (t_Way___str__ c) T M W R_written
  have R_Way_of := ok_wof (P := Pr) (w := w) (K := K) (mg := mg) (base := base) (t_Way_of c) T M W R_Way___init__
  have R_law_pool := ok_pool (P := Pr) (w := w) (K := K) (mg := mg) (base := base) (t_law_pool X G c) T
  have R_law_draw := ok_draw (P := Pr) (w := w) (K := K) (mg := mg) (base := base) (t_law_draw X G c) T
  have R_law_of := ok_of (P := Pr) (w := w) (K := K) (mg := mg) (base := base) (t_law_of X G c) T R_law_draw
  have R_law_letters := ok_letters (P := Pr) (w := w) (K := K) (mg := mg) (base := base) (t_law_letters X G c) T
  have R_law_word := ok_word (P := Pr) (w := w) (K := K) (mg := mg) (base := base) (t_law_word X G c) T R_law_draw R_law_letters
  have R_law_tables := ok_tables (P := Pr) (w := w) (K := K) (mg := mg) (base := base) (t_law_tables X G c) T R_law_draw R_law_of R_law_word
  have R_law_text := ok_text (P := Pr) (w := w) (K := K) (mg := mg) (base := base) (t_law_text X G c) T
  have R_law_columns := ok_cols (P := Pr) (w := w) (K := K) (mg := mg) (base := base) (t_law_columns X G c) T
  have R_law_moves := ok_mvs (P := Pr) (w := w) (K := K) (mg := mg) (base := base) (t_law_moves X G c) T R_law_columns
  have R_law_asked := ok_ask (P := Pr) (w := w) (K := K) (mg := mg) (base := base) (t_law_asked X G c) T Y R_law_columns R_law_draw
  have R_law_way := ok_lway (P := Pr) (w := w) (K := K) (mg := mg) (base := base) (t_law_way X G c) T R_law_asked R_law_moves R_law_draw R_law_of
  have R_law_written := ok_lwr (P := Pr) (w := w) (K := K) (mg := mg) (base := base) (t_law_written X G c) T
  have R_law_is_told := ok_told_ (P := Pr) (w := w) (K := K) (mg := mg) (base := base) (t_law_is_told X G c) T M S SI W Y R_Schema___eq__ R_Way_is_straight R_Way___len__ R_Way___str__ R_law_written
  exact ok_law F T M S SI W Y R_law_pool R_law_draw R_law_of R_law_tables R_law_text R_law_way R_law_is_told R_Schema___init__ R_Way___init__ R_Way_of R_Way___str__
end
end Ow
open PySem PySem.W PySem.Calls PyProof.Rows
theorem PySem.Challenge.cw_owedrebuilds_k18_ways_read_holds : PySem.Challenge.rw_owedrebuilds_k18_ways_read.Holds := by
  w_on; o_law
  refine HandSHeadRun.head_any (r := Ow.R) (q := view Ow.R.prog [56]) (H := Ow.hk) (ob := Ow.ob) (M := 100000) (loose := Ow.nms) (d := HandSHeadRun.topDef Ow.R.prog 56) (kwd := []) Ow.ob_eq
    (by kernel_rfl) (fun s => by kernel_rfl) Ow.run (by kernel_rfl) (by kernel_rfl) (by kernel_rfl) (by rfl) (by first | assumption | decide +kernel) (by decide +kernel) ⟨rfl, rfl, rfl, rfl, rfl, by decide +kernel⟩ ?hw ?hc
  case hw => w_witness2
  case hc =>
    refine Ow.walk_end (l := PySem.Challenge.rw_owedrebuilds_k18_ways_read) (n := 63) (k := 9) (x := "_law_script") rfl (by decide) (by kernel_rfl) ⟨rfl, by decide, by decide⟩ ?F
    intro w mg fa h Y G hmg0
    obtain ⟨K, KX, c⟩ := Y
    have hmg : mg ("law" : PySem.Str) = some (.ref fa) := by
      have e : (HandSHeadRun.topDef Ow.R.prog 56).name = ("law" : PySem.Str) := by kernel_rfl
      rw [← e]
      exact hmg0
    obtain ⟨fd, hb, hF⟩ := Ow.facts (w := w) KX G hmg c
    exact ⟨K, fd, Ow.spLaw K, KX, hb, fun H a ns hl _ _ hS => ⟨a, ns, rfl, hS, hl, fun _ => rfl⟩, hF⟩
