import PyProof.Rows.All
import Wide.All
import OpenK.AllK
import Wide.FinOn
import PyProof.ReprReads
import PyProof.ReprRoads
import KE.KStateDown
import HandS.ForMost
import HandS.More
import HandS.Exc
import HandS.WordsExc
import HandS.Defaults
import HandS.IsInst
import HandS.Flow
import HandS.WideBits
import HandS.RaiseMore
import HandS.Head0
import HandS.Head1
import HandS.Head2
import HandS.HeadEnd
import HandS.HeadHook1
import HandS.HeadHook2
import HandS.Style
import HandS.TupLe
import PyProof.EnumMake
import PyProof.Draws
import HandS.Zip0
import HandS.Walk
import PyProof.ReprLen
import KE.KCallOwn
import KE.KFmtOwn
import HandS.Property
import HandS.SlotsOwn
import HandS.FStr
import HandS.HeadNt
import PySem.Challenge.RW_bitlaid_k61_polynomials_by_lists
set_option Elab.async false
set_option linter.all false
set_option maxRecDepth 100000
set_option maxHeartbeats 4000000
namespace Bx
open PySem PySem.Spec PyProof.Rows L2
/-! ## defs that run where no repr is under way -/
/-- as FnOk, at surroundings without a repr under way -/
structure FnOkG (P : Program) (w : World) (K : PySem.W.Frag) (mg : Str → Option Value) (base : Heap)
    (CX : CXT) (k : Nat) (f : Addr) (fd : FuncData) (ps : List Str) (sp : Sp) : Prop where
  len : ∀ vs H Q E, sp vs H Q E → vs.length = ps.length
  run : ∀ (A : Around) (outer : List Env) (s : Shared) (H : Hp) (args : Args) (us : List Value) (vs : List V)
    (Q : VK) (E : XK), Room k A → A.guards = some [] → Env0 P w K mg base A outer s H →
    BindsTo s fd args (ps.zip us) → Vals vs us → sp vs H Q E →
    codeAny (model P w) A (.call (.ref f) args) (CR CX outer P w H s Q E) s
section
variable {P : Program} {w : World} {K : PySem.W.Frag} {mg : Str → Option Value} {base : Heap} {CX : CXT}
theorem FnOkG.mono {j k : Nat} {f : Addr} {fd : FuncData} {ps : List Str} {sp : Sp}
    (F : FnOkG P w K mg base CX j f fd ps sp) (h : j ≤ k) : FnOkG P w K mg base CX k f fd ps sp :=
  ⟨F.len, fun A o s H args us vs Q E r => F.run A o s H args us vs Q E (r.mono h)⟩
/-- a def's body, walked with no repr under way -/
theorem okG {x qual : Str} {params : Arguments} {body : List Stmt} {scope : Scope} {dvs : List V}
    {kws : List (Str × V)} {f : Addr} {fd : FuncData} {N ps : List Str} {k : Nat} {sp : Sp}
    (F : FunD K x qual params body scope dvs kws f fd) (S : FnScope N ps scope)
    (len : ∀ vs H Q E, sp vs H Q E → vs.length = ps.length)
    (hbody : ∀ (cdv : Value) (A : Around) (outer : List Env) (s : Shared) (H : Hp) (vs : List V) (Q : VK) (E : XK),
      Room k (A.deeper (envOfC qual scope s.heap.objs.size f cdv)) → A.guards = some [] → sp vs H Q E →
      ∃ t, PSs (cxOf CX P w K mg base N qual scope f cdv A outer s H E) body t ∧
        t { nx := fun _ H' => Q .non H', rt := Q } (start N vs) H) :
    FnOkG P w K mg base CX (k + 1) f fd ps sp := by
  obtain ⟨oc, od, dV, kV, doc, pm, an, cdv, ct, osl, rfl, lk, hcd, _, _⟩ := F.ex
  refine ⟨len, fun A outer s H args us vs Q E hr hgd e0 hb r hsp => ?_⟩
  have hl := len _ _ _ _ hsp
  have KX : K.In s.heap := e0.mod.kin.keeps fun b o e => (e0.bs b o e).1
  have lim : s.heap.NoLimit := e0.mod.nolimit.keeps fun b o e => (e0.bs b o e).1
  have kinds : ∀ y ∈ ps.zip us, scope.names.lookup y.1 = some .local ∨
      (scope.names.lookup y.1 = some .cell ∧ ((cellsFrom (s.heap.objs.size + 1) scope.names []).lookup y.1).isSome = true) := by
    rintro ⟨n, v⟩ hy
    cases S.par n (List.of_mem_zip hy).1 with
    | inl q => exact .inl q
    | inr q => exact .inr ⟨q, PySem.W.cellsFrom_some _ _ _ (.inl q)⟩
  refine codeAny_call_function hr.depth (KX _ _ lk) rfl S.co S.gen rfl (PySem.W.codeRec_of KX hcd) (hb _ _ _ _ ?_)
  refine wpAny_newFunctionEnv_cells S.kind kinds fun env he s1 y => ?_
  subst he
  refine ⟨lim.keeps y.toInCall.keep, codeAny_func ?_⟩
  obtain ⟨t, ht, hq⟩ := hbody cdv A outer s H vs Q E (hr.deeper _) hgd hsp
  have I := inv_start (CX := CX) (P := P) (w := w) (K := K) (mg := mg) (base := base) (E := E) S hr.hd e0 hl r y
  refine wpAny_mono (ht.run [] s1 (start N vs) H _ I hq) (fun fl s' hs => ?_) fun e s' hs => hs
  cases fl with
  | ret u =>
    obtain ⟨v, σ', H', J, rv, q⟩ := hs
    exact ⟨v, H', J.os, J.bare, J.base, J.hok, rv, q⟩
  | next =>
    obtain ⟨σ', H', J, q⟩ := hs
    exact ⟨.non, H', J.os, J.bare, J.base, J.hok, rfl, q⟩
  | brk =>
    obtain ⟨_, _, _, q⟩ := hs
    exact q.elim
  | cont =>
    obtain ⟨_, _, _, q⟩ := hs
    exact q.elim
/-- a call, f(e, ..), of such a def -/
theorem pe_callG {X : Cx} {k : Nat} {f : Addr} {fd : FuncData} {ps : List Str} {sp : Sp} {dvs : List V}
    {ds : List Value} {E : XK} {x : Str} {p pos : Pos} {e : Expr} {es : List Expr} {t : TA}
    (F : FnOkG X.prog X.w X.K X.mg X.base CX k f fd ps sp) (hr : Room k X.A) (gd : X.A.guards = some [])
    (hg : Gl X x) (hm : X.mg x = some (.ref f)) (hk : PySem.W.keepIn X.K (.ref f) = true)
    (hb : Binds X.K fd ps ds) (hd : Vals dvs ds) (hx : Passes CX X E) (ha : PA X (e :: es) t)
    (hdb : (x == ("__debug__" : Str)) = false := by decide)
    (he : starEach (e :: es) X.env = (false, eval e X.env) :: starEach es X.env := by rfl)
    (hpl : (backTo pos (starEach es X.env)).any (·.1) = false := by rfl) :
    PE X (.Call (.Name x p) (e :: es) [] pos) (tCall sp dvs E t) := by
  refine ⟨fun pins s σ H Q I h => wpAny_Call_Name_kw (ld_glob I hg hm ?_ hdb)⟩
  refine PySem.W.callWith_K (h₀ := X.base) I.ok.mod.kin hk
    (thn (ha.run pos pins s σ H _ I h) fun us s1 ⟨vs, H1, I1, r, q⟩ => ⟨I1.kIn, ?_⟩) he hpl
  have r2 : Vals (vs ++ dvs) (us ++ ds) := r.append hd
  have hl : (us ++ ds).length = ps.length := by
    rw [← r2.length]
    exact F.len _ _ _ _ q
  refine wpAny_call (codeAny_mono (F.run X.A X.stack s1 H1 ⟨us, []⟩ (us ++ ds) (vs ++ dvs) Q E hr gd I1.env0
    (hb s1 us I1.kIn hl) r2 q) fun r s' hq => ?_)
  cases r with
  | error e => exact hx pins σ H1 s1 e s' I1 hq
  | ok fl =>
    cases fl with
    | ret u => exact I1.after hq
    | next => exact hq.elim
    | brk => exact hq.elim
    | cont => exact hq.elim
end
/-! ## repr of data -/
/-- repr(x), x data of any depth up to 50 -/
theorem call_repr {X : Cx} (gd : X.A.guards = some []) (hu : X.A.units + 64 < cLine) :
    CallR X (.builtin "repr") (fun xs H Q => ∃ v d, xs = [v] ∧ Dp X.K H v d ∧ d.showable = true ∧
      d.hasDict = false ∧ d.depth ≤ 50 ∧ d.shown.length ≤ sizeLine ∧ Q (.str d.shown) H) := by
  intro pins s σ H xs us Q I r h
  obtain ⟨v, d, rfl, hd, hs, hn, hp, hz, q⟩ := h
  obtain ⟨u, rfl, ru⟩ := vals1 r
  obtain ⟨as, rd⟩ := Dp.reads I d v u hd ru
  cases hd with
  | non =>
    cases ru
    exact PySem.P.repr_of_none ⟨.str _, H, I.tok _, ⟨_, rfl⟩, q⟩
  | bl b =>
    cases ru
    refine PySem.P.repr_of_bool ⟨.str _, H, I.tok _, ⟨_, rfl⟩, ?_⟩
    exact q
  | int i =>
    obtain ⟨t, rfl⟩ := ru
    exact PySem.P.repr_of_int (of_decide_eq_true hs) ⟨.str _, H, I.tok _, ⟨_, rfl⟩, q⟩
  | str x =>
    obtain ⟨t, rfl⟩ := ru
    exact PySem.P.repr_of_str ⟨.str _, H, I.tok _, ⟨_, rfl⟩, q⟩ hz
  | lst hS hA =>
    obtain rfl : u = Value.ref _ := ru
    refine repr_of_reads' rd hs (PyData.noDict_hsm hn) gd (by omega) (fun _ _ e => e) (fun h' u' tk hk => ?_) hz
    exact ⟨.str _, H, I.kept hk, ⟨_, rfl⟩, q⟩
  | tup hS hA =>
    obtain rfl : u = Value.ref _ := ru
    refine repr_of_reads' rd hs (PyData.noDict_hsm hn) gd (by omega) (fun _ _ e => e) (fun h' u' tk hk => ?_) hz
    exact ⟨.str _, H, I.kept hk, ⟨_, rfl⟩, q⟩
/-! ## the law's own call -/
/-- the objects that are known before the law's call, apart from the script -/
theorem hid_ns {h : Heap} {H : Hp} {a : Addr} {vs : List Value}
    (ha : h.get? a = some { cls := .type "list", data := .seq vs.toArray }) (only : ∀ b, H b ≠ none → b = a)
    {b : Addr} {m : Str → Option Value} (n : h.Ns b m) : (hidT h H).Ns b m := by
  obtain ⟨o, es, ep, e, d, r⟩ := n
  refine ⟨o, es, ep, hidT_get e ?_, d, r⟩
  cases q : H b with
  | none => rfl
  | some u =>
    have eb := only b (fun z => by
      rw [q] at z
      cases z)
    subst eb
    rw [ha] at e
    cases e
    cases d
/-- the end of a law whose def is walked with no repr under way -/
theorem law_callG {P : Program} {w : World} {K : PySem.W.Frag} {mg mb : Str → Option Value} {k : Nat} {fa a : Addr}
    {fd : FuncData} {x : Str} {sp : Sp} {s₁ : Shared} {vs : List Value} {ns : List Int}
    (KX : K.In s₁.heap) (hns : s₁.heap.Ns mainGlobals mg) (hb : s₁.heap.Ns builtinsNs mb)
    (hbb : ∀ x : Str, x ≠ "__name__" → mb x = bootBuiltins x) (lim : s₁.heap.NoLimit) (hg : s₁.gens = #[])
    (ha : s₁.heap.get? a = some { cls := .type "list", data := .seq vs.toArray }) (hi : IntsAre vs ns)
    (hl : ns.length ≤ sizeLine) (hr : Room k callerA)
    (F : ∀ base : Heap, K.In base → base.Ns mainGlobals mg → FnOkG P w K mg base CX0 k fa fd [x] sp)
    (bind : ∀ (s : Shared) (u : Value), BindsTo s fd ⟨[u], []⟩ [(x, u)])
    (hsp : ∀ H : Hp, SqL K H a (ns.map V.int) → sp [.ref a] H (fun v _ => v = .bl true) fun _ _ _ => False) :
    codeAny (model P w) callerA (.call (.ref fa) ⟨[.ref a], []⟩)
      (fun r s' => r = .ok (.ret (.bool true)) ∧ OldK s₁.heap s'.heap ∧ s'.os = s₁.os ∧ AllBare s'.gens) s₁ := by
  have rv := vals_ints hi
  have key : ∀ H : Hp, Only H → SqL K H a (ns.map V.int) → HOk P w H s₁.heap → (∀ b, H b ≠ none → b = a) →
      (H a ≠ none → K.lookup a = none) → codeAny (model P w) callerA (.call (.ref fa) ⟨[.ref a], []⟩)
      (fun r s' => r = .ok (.ret (.bool true)) ∧ OldK s₁.heap s'.heap ∧ s'.os = s₁.os ∧ AllBare s'.gens) s₁ := by
    intro H hO hS hok only nk
    have kb : K.In (hidT s₁.heap H) := by
      intro b o e
      refine hidT_get (KX b o e) ?_
      cases q : H b with
      | none => rfl
      | some u =>
        have nb : H b ≠ none := fun z => by
          rw [q] at z
          cases z
        have eb := only b nb
        subst eb
        rw [nk nb] at e
        cases e
    obtain ⟨mc, l1, l2⟩ := lim
    have M : Mod K mg (hidT s₁.heap H) := ⟨kb, hid_ns ha only hns, ⟨mb, hid_ns ha only hb, hbb⟩, mc, hid_ns ha only l1, l2⟩
    have e0 : Env0 P w K mg (hidT s₁.heap H) callerA [] s₁ H :=
      { frames := rfl, mod := M, bs := fun b o e => of_hidT e, bsz := Nat.le_of_eq (hidT_size _ _), funs := trivial,
        frf := fun b z => (nomatch (show b ∈ ([] : List Addr) from z)), hok := hok, bare := .of_eq hg }
    have run := (F _ kb (hid_ns ha only hns)).run callerA [] s₁ H ⟨[.ref a], []⟩ [.ref a] [.ref a] _ _ hr rfl e0
      (bind s₁ (.ref a)) (.cons rfl .nil) (hsp H hS)
    refine codeAny_mono run fun r s' h => ?_
    cases r with
    | error e => exact h.elim
    | ok fl =>
      cases fl with
      | next => exact h.elim
      | brk => exact h.elim
      | cont => exact h.elim
      | ret u =>
        obtain ⟨v, H', os, bare, un, hok', rel, q⟩ := h
        have ev : v = .bl true := q
        subst ev
        obtain rfl : u = Value.bool true := rel
        refine ⟨rfl, OldK.of_keep ?_, os, bare⟩
        intro b o e
        cases q : H b with
        | none => exact un.keep b o e q (fun z => nomatch (show b ∈ ([] : List Addr) from z)) (fun z => nomatch z)
        | some u =>
          rcases hO b with z | ⟨ob, xs, z⟩
          · rw [q] at z
            cases z
          · obtain ⟨e1, _⟩ := hok b _ z
            obtain ⟨e2, _⟩ := hok' b _ (un.frzs b ob _ z)
            rw [e] at e1
            cases e1
            exact e2
  cases hk : K.lookup a with
  | some o =>
    have e := KX a o hk
    rw [ha] at e
    cases e
    refine key (fun _ => none) (fun _ => .inl rfl) (.inr ⟨_, vs.toArray, _, hk, rfl, rfl, rfl, ?_, by simpa using rv⟩)
      (fun b u z => nomatch (show (none : Option HO) = some u from z)) (fun b z => (z rfl).elim) (fun z => (z rfl).elim)
    rw [List.size_toArray, hi.length]
    exact hl
  | none =>
    have at_ : ∀ b, b = a → (upd (fun _ => none) a (.frz { cls := .type "list", data := .seq vs.toArray } (.lst (ns.map V.int)))) b = some (.frz { cls := .type "list", data := .seq vs.toArray } (.lst (ns.map V.int))) := fun b e => by
      rw [e, upd_same]
    have off : ∀ b, b ≠ a → (upd (fun _ => none) a (.frz { cls := .type "list", data := .seq vs.toArray } (.lst (ns.map V.int)))) b = none := fun b e => upd_ne e
    refine key (upd (fun _ => none) a (.frz { cls := .type "list", data := .seq vs.toArray } (.lst (ns.map V.int)))) ?_
      (.inl (.inr ⟨_, at_ a rfl⟩)) ?_ ?_ (fun _ => hk)
    · intro b
      by_cases e : b = a
      · exact .inr ⟨_, _, at_ b e⟩
      · exact .inl (off b e)
    · intro b u z
      by_cases e : b = a
      · rw [at_ b e] at z
        cases z
        subst e
        refine ⟨ha, ?_, vs, _, rv, ha⟩
        rw [List.length_map]
        exact hl
      · rw [off b e] at z
        cases z
    · intro b z
      by_cases e : b = a
      · exact e
      · exact (z (off b e)).elim
theorem walkG {l : PySem.W.OpenLaw} {n k : Nat} {q : Program} {loose : List Str}
    {XP : (Str → Option Value) → Heap → Prop} {YP : World → Heap → Prop} {d : DefRec} {x : Str}
    (hn : l.most = some n) (hn2 : n ≤ sizeLine) (hdf : d.params.defaults = []) (hr : Room k callerA)
    (F : ∀ (w : World) (mg : Str → Option Value) (fa : Addr) (h : Heap), YP w h → h.Ns mainGlobals mg →
      mg d.name = some (.ref fa) → ∃ (K : PySem.W.Frag) (fd : FuncData) (sp : Sp), K.In h ∧
        (∀ (s : Shared) (u : Value), BindsTo s fd ⟨[u], []⟩ [(x, u)]) ∧
        (∀ (H : Hp) (a : Addr) (ns : List Int), ns.length ≤ n → SqL K H a (ns.map V.int) →
          sp [.ref a] H (fun v _ => v = .bl true) fun _ _ _ => False) ∧
        ∀ base : Heap, K.In base → base.Ns mainGlobals mg → FnOkG l.prog w K mg base CX0 k fa fd [x] sp) :
    PySem.W.WalkO q loose XP YP l.row.toRowW d [] (fun f vs => PySem.call f vs) := by
  refine Att.attach_call hn hdf fun w s₀ s₁ mg mb fa o pm cd doc a vs ns G Y ho hd hcd hmg hobj hints hlen hg => ?_
  obtain ⟨K, fd, sp, KX, hb, hsp, hF⟩ := F w mg fa _ Y G.T.g hmg
  exact law_callG KX G.T.g G.T.b G.T.builtins G.T.nolimit hg hobj hints (Nat.le_trans hlen hn2) hr hF hb
    (fun H hS => hsp H a ns hlen hS)
end Bx
namespace HeX
open PySem PySem.Spec PyProof.Rows L2 He
abbrev AlE : Type := AlD × Bool
def obsE (fa : List Fa) (fn : List DefD) (ex : PySem.W.Frag → Bool) (K : PySem.W.Frag) : AlE := (obsD fa fn K, ex K)
def obsEG (n : Nat) (fa : List Fa) (fn : List DefD) (ex : PySem.W.Frag → Bool) (g : Addr → Option Obj) : AlE := obsE fa fn ex (frG g (asD g n))
structure SaysE (fa : List Fa) (fn : List DefD) (ex : PySem.W.Frag → Bool) (K : PySem.W.Frag) : Prop where
  d : SaysD fa fn K
  more : ex K = true
def hookE (n : Nat) (fa : List Fa) (fn : List DefD) (ex : PySem.W.Frag → Bool) : PySem.W.Hook where
  α := AlE
  obs := fun s => obsEG n fa fn ex s.heap.get?
  val := fun _ => (valD fn, true)
  says := fun _ h => ∃ K : PySem.W.Frag, K.In h ∧ SaysE fa fn ex K
  of := fun _ _ e => ⟨_, frG_in, congrArg (fun z : AlE => z.1) e, congrArg (fun z : AlE => z.2) e⟩
  keeps := fun _ _ _ ⟨K, hK, c⟩ k => ⟨K, PySem.W.Frag.In.keeps hK k, c⟩
theorem obsEG_eq {n : Nat} {fa : List Fa} {fn : List DefD} {ex : PySem.W.Frag → Bool} {g : Addr → Option Obj} {s : Shared}
    (h : ∀ a, g a = s.heap.get? a) : obsEG n fa fn ex g = (hookE n fa fn ex).obs s := by
  have e : g = s.heap.get? := funext h
  rw [e] <;> rfl
end HeX

set_option maxHeartbeats 4000000
namespace Bx
open PySem PySem.Spec PyProof.Rows L2
/-! ## defs of the top by their names -/
abbrev FnP (K : PySem.W.Frag) (x : Str) (st : Stmt) (f : Addr) (fd : FuncData) : Prop :=
  FunD K x x (defArgs st) (defBody st) (defScope st) [] [] f fd
/-- the def st of the text stands under the module's name x -/
def DefAt (K : PySem.W.Frag) (mg : Str → Option Value) (x : Str) (st : Stmt) : Prop :=
  ∃ fd, FnP K x st (He.ga K x) fd ∧ mg x = some (.ref (He.ga K x))
/-- the def under the name x keeps a promise -/
structure CallF (P : Program) (w : World) (K : PySem.W.Frag) (mg : Str → Option Value) (base : Heap) (CX : CXT)
    (k : Nat) (x : Str) (ps : List Str) (sp : Sp) : Prop where
  ex : ∃ fd, FnOk P w K mg base CX k (He.ga K x) fd ps sp ∧ mg x = some (.ref (He.ga K x)) ∧
    PySem.W.keepIn K (.ref (He.ga K x)) = true ∧ Binds K fd ps [] ∧ ∃ st, FnP K x st (He.ga K x) fd
structure CallG (P : Program) (w : World) (K : PySem.W.Frag) (mg : Str → Option Value) (base : Heap) (CX : CXT)
    (k : Nat) (x : Str) (ps : List Str) (sp : Sp) : Prop where
  ex : ∃ fd, FnOkG P w K mg base CX k (He.ga K x) fd ps sp ∧ mg x = some (.ref (He.ga K x)) ∧
    PySem.W.keepIn K (.ref (He.ga K x)) = true ∧ Binds K fd ps [] ∧ ∃ st, FnP K x st (He.ga K x) fd
/-- one address, one def -/
theorem fnP_inj {K : PySem.W.Frag} {x : Str} {st st' : Stmt} {f : Addr} {fd fd' : FuncData} (D : FnP K x st f fd) (D' : FnP K x st' f fd') : fd = fd' := by
  obtain ⟨_, _, _, _, _, _, _, _, _, _, _, l1, _⟩ := D.ex
  obtain ⟨_, _, _, _, _, _, _, _, _, _, _, l2, _⟩ := D'.ex
  rw [l1] at l2
  injection l2 with l3
  injection l3 with _ _ l4 _
  injection l4
theorem fd_of {P : Program} {w : World} {K : PySem.W.Frag} {mg : Str → Option Value} {base : Heap} {CX : CXT} {k : Nat} {x : Str} {ps : List Str} {sp : Sp} {st : Stmt} {fd : FuncData}
    (D : FnP K x st (He.ga K x) fd) (C : CallG P w K mg base CX k x ps sp) : FnOkG P w K mg base CX k (He.ga K x) fd ps sp := by
  obtain ⟨fd2, F, _, _, _, st2, D2⟩ := C.ex
  rw [fnP_inj D D2]
  exact F
section
variable {P : Program} {w : World} {K : PySem.W.Frag} {mg : Str → Option Value} {base : Heap} {CX : CXT}
/-- how the parameters of the def st bind, all given by position -/
def BindOk (x : Str) (st : Stmt) (ps : List Str) : Prop :=
  ∀ (kV doc pm : Value) (an : Option Addr) (cdv ct : Value) (us : List Value), us.length = ps.length →
    bindArgs (PySem.W.fnOf x x (defArgs st) (defBody st) (defScope st) .none kV doc pm an cdv ct) ⟨us, []⟩ = pure (ps.zip us)
theorem callF_of {x : Str} {st : Stmt} {N ps : List Str} {k : Nat} {sp : Sp} (D : DefAt K mg x st)
    (S : FnScope N ps (defScope st)) (hb : BindOk x st ps) (len : ∀ vs H Q E, sp vs H Q E → vs.length = ps.length)
    (body : ∀ (cdv : Value) (A : Around) (outer : List Env) (s : Shared) (H : Hp) (vs : List V) (Q : VK) (E : XK),
      Room k (A.deeper (envOfC x (defScope st) s.heap.objs.size (He.ga K x) cdv)) → sp vs H Q E →
      ∃ t, PSs (cxOf CX P w K mg base N x (defScope st) (He.ga K x) cdv A outer s H E).nox (defBody st) t ∧
        t { nx := fun _ H' => Q .non H', rt := Q } (start N vs) H) :
    CallF P w K mg base CX (k + 1) x ps sp := by
  obtain ⟨fd, F, hm⟩ := D
  exact ⟨fd, F.ok S len fun cdv A outer s H vs Q E hr h => let ⟨t, a, b⟩ := body cdv A outer s H vs Q E hr h; ⟨t, PSs.nox a, b⟩, hm, F.kp, F.bindsN hb, st, F⟩
theorem callG_of {x : Str} {st : Stmt} {N ps : List Str} {k : Nat} {sp : Sp} (D : DefAt K mg x st)
    (S : FnScope N ps (defScope st)) (hb : BindOk x st ps) (len : ∀ vs H Q E, sp vs H Q E → vs.length = ps.length)
    (body : ∀ (cdv : Value) (A : Around) (outer : List Env) (s : Shared) (H : Hp) (vs : List V) (Q : VK) (E : XK),
      Room k (A.deeper (envOfC x (defScope st) s.heap.objs.size (He.ga K x) cdv)) → A.guards = some [] → sp vs H Q E →
      ∃ t, PSs (cxOf CX P w K mg base N x (defScope st) (He.ga K x) cdv A outer s H E).nox (defBody st) t ∧
        t { nx := fun _ H' => Q .non H', rt := Q } (start N vs) H) :
    CallG P w K mg base CX (k + 1) x ps sp := by
  obtain ⟨fd, F, hm⟩ := D
  exact ⟨fd, okG F S len fun cdv A outer s H vs Q E hr gd h => let ⟨t, a, b⟩ := body cdv A outer s H vs Q E hr gd h; ⟨t, PSs.nox a, b⟩, hm, F.kp, F.bindsN hb, st, F⟩
end
section
variable {X : Cx} {CX : CXT} {k : Nat} {x : Str} {ps : List Str} {sp : Sp} {E : XK} {p pos : Pos} {e : Expr}
  {es : List Expr} {t : TA}
theorem pe_f (C : CallF X.prog X.w X.K X.mg X.base CX k x ps sp) (hr : Room k X.A) (hg : Gl X x) (hx : Passes CX X E)
    (ha : PA X (e :: es) t) (hdb : (x == ("__debug__" : Str)) = false := by decide)
    (he : starEach (e :: es) X.env = (false, eval e X.env) :: starEach es X.env := by rfl)
    (hpl : (backTo pos (starEach es X.env)).any (·.1) = false := by rfl) :
    PE X (.Call (.Name x p) (e :: es) [] pos) (tCall sp [] E t) := by
  obtain ⟨fd, F, hm, kp, b, _⟩ := C.ex
  exact pe_call F hr hg hm kp b .nil hx ha hdb he hpl
theorem pe_fg (C : CallG X.prog X.w X.K X.mg X.base CX k x ps sp) (hr : Room k X.A) (gd : X.A.guards = some [])
    (hg : Gl X x) (hx : Passes CX X E) (ha : PA X (e :: es) t) (hdb : (x == ("__debug__" : Str)) = false := by decide)
    (he : starEach (e :: es) X.env = (false, eval e X.env) :: starEach es X.env := by rfl)
    (hpl : (backTo pos (starEach es X.env)).any (·.1) = false := by rfl) :
    PE X (.Call (.Name x p) (e :: es) [] pos) (tCall sp [] E t) := by
  obtain ⟨fd, F, hm, kp, b, _⟩ := C.ex
  exact pe_callG F hr gd hg hm kp b .nil hx ha hdb he hpl
/-- how a call by names alone binds: g brings the keywords' values into the parameters' order -/
structure KwOk (fd : FuncData) (ps ks : List Str) (g : {α : Type} → List α → List α) : Prop where
  to : ∀ (s : Shared) (ws : List Value), ws.length = ks.length → BindsTo s fd ⟨[], ks.zip ws⟩ (ps.zip (g ws))
  rel : ∀ {zs : List V} {ws : List Value}, Vals zs ws → Vals (g zs) (g ws)
/-- f(k = v, ..): nothing by position -/
theorem pe_fk0 {ks : List Str} {g : {α : Type} → List α → List α} {kws : List Keyword} {tk : TA} {st : Stmt}
    (C : CallF X.prog X.w X.K X.mg X.base CX k x ps sp) (D : DefAt X.K X.mg x st) (hr : Room k X.A) (hg : Gl X x)
    (kb : ∀ fd, FnP X.K x st (He.ga X.K x) fd → KwOk fd ps ks @g) (hx : Passes CX X E) (hkw : PK X kws tk)
    (hall : (backToKw pos (keywordEach kws X.env)).all (·.1.isSome) = true := by rfl)
    (hks : (backToKw pos (keywordEach kws X.env)).filterMap (·.1) = ks := by rfl)
    (hpl : ((backTo pos (starEach [] X.env)).any (·.1) || (backToKw pos (keywordEach kws X.env)).any (·.1.isNone)) = false := by rfl)
    (hdb : (x == ("__debug__" : Str)) = false := by decide) :
    PE X (.Call (.Name x p) [] kws pos) (fun σ H Q => tk σ H fun zs H1 => zs.length = ks.length ∧ sp (g zs) H1 Q E) := by
  obtain ⟨fd, F, hm, kp, b, st', D'⟩ := C.ex
  obtain ⟨fd2, D2, _⟩ := D
  have ef : fd2 = fd := fnP_inj D2 D'
  subst ef
  refine ⟨fun pins s σ H Q I h => wpAny_Call_Name_kw (ld_glob I hg hm ?_ hdb)⟩
  refine PySem.W.callWith_KW0 (h₀ := X.base) I.ok.mod.kin kp hall
    (thn (hkw.run pos pins s σ H _ I h) fun ws s2 ⟨zs, H2, I2, rz, hl, q⟩ => ⟨I2.kIn, ?_⟩) hpl
  rw [hks]
  have W := kb fd2 D2
  refine wpAny_call (codeAny_mono (F.run X.A X.stack s2 H2 ⟨[], ks.zip ws⟩ (g ws) (g zs) Q E hr I2.env0
    (W.to s2 ws (rz.length.symm.trans hl)) (W.rel rz) q) fun r s' hq => ?_)
  cases r with
  | error e => exact hx pins σ H2 s2 e s' I2 hq
  | ok fl =>
    cases fl with
    | ret u => exact I2.after hq
    | next => exact hq.elim
    | brk => exact hq.elim
    | cont => exact hq.elim
/-- a constant of the module, an int -/
theorem pe_gInt {i : Int} (hg : Gl X x) (h : ∃ t, X.mg x = some (.int i t))
    (hd : (x == ("__debug__" : Str)) = false := by decide) : PE X (.Name x pos) (tC (.int i)) := by
  obtain ⟨t, h⟩ := h
  exact pe_glob hg h ⟨t, rfl⟩ hd
end
/-- an object of the module's top by its name -/
theorem pe_gRef {X : Cx} {x : Str} {a : Addr} {pos : Pos} (hg : Gl X x) (h : X.mg x = some (.ref a)) (hd : (x == ("__debug__" : Str)) = false := by decide) : PE X (.Name x pos) (tC (.ref a)) :=
  pe_glob hg h rfl hd
/-- KwOk for one keyword, no defaults -/
theorem kw1 {K : PySem.W.Frag} {x a : Str} {st : Stmt} {f : Addr} {fd : FuncData}
    (h : ∀ (kV doc pm : Value) (an : Option Addr) (cdv ct u : Value),
      bindArgs (PySem.W.fnOf x x (defArgs st) (defBody st) (defScope st) .none kV doc pm an cdv ct) ⟨[], [(a, u)]⟩ = pure [(a, u)])
    (F : FnP K x st f fd) : KwOk fd [a] [a] (fun zs => zs) := by
  obtain ⟨oc, od, dV, kV, doc, pm, an, cdv, ct, osl, rfl, lk, hcd, hd, _⟩ := F.ex
  rcases hd with ⟨_, e⟩ | ⟨e, _⟩
  · subst e
    refine ⟨fun s ws hl => ?_, fun r => r⟩
    match ws, hl with
    | [u], _ => exact .of_eq (h kV doc pm an cdv ct u)
  · exact absurd rfl e
theorem kw2 {K : PySem.W.Frag} {x a b : Str} {st : Stmt} {f : Addr} {fd : FuncData}
    (h : ∀ (kV doc pm : Value) (an : Option Addr) (cdv ct u v : Value),
      bindArgs (PySem.W.fnOf x x (defArgs st) (defBody st) (defScope st) .none kV doc pm an cdv ct) ⟨[], [(b, u), (a, v)]⟩ = pure [(a, v), (b, u)])
    (F : FnP K x st f fd) : KwOk fd [a, b] [b, a] (fun zs => zs.reverse) := by
  obtain ⟨oc, od, dV, kV, doc, pm, an, cdv, ct, osl, rfl, lk, hcd, hd, _⟩ := F.ex
  rcases hd with ⟨_, e⟩ | ⟨e, _⟩
  · subst e
    refine ⟨fun s ws hl => ?_, fun r => ?_⟩
    · match ws, hl with
      | [u, v], _ => exact .of_eq (h kV doc pm an cdv ct u v)
    · induction r with
      | nil => exact .nil
      | cons p q ih =>
        rw [List.reverse_cons, List.reverse_cons]
        exact Vals.append ih (.cons p .nil)
  · exact absurd rfl e
/-! ## the built-ins' names -/
theorem bb_isinstance : bootBuiltins "isinstance" = some (.builtin "isinstance") := by decide +kernel
theorem bb_len : bootBuiltins "len" = some (.builtin "len") := by decide +kernel
theorem bb_abs : bootBuiltins "abs" = some (.builtin "abs") := by decide +kernel
theorem bb_max : bootBuiltins "max" = some (.builtin "max") := by decide +kernel
theorem bb_min : bootBuiltins "min" = some (.builtin "min") := by decide +kernel
theorem bb_divmod : bootBuiltins "divmod" = some (.builtin "divmod") := by decide +kernel
theorem bb_repr : bootBuiltins "repr" = some (.builtin "repr") := by decide +kernel
theorem bb_sum : bootBuiltins "sum" = some (.builtin "sum") := by decide +kernel
theorem bb_all : bootBuiltins "all" = some (.builtin "all") := by decide +kernel
theorem bb_any : bootBuiltins "any" = some (.builtin "any") := by decide +kernel
theorem bb_sorted : bootBuiltins "sorted" = some (.builtin "sorted") := by decide +kernel
theorem bt_int : bootBuiltins "int" = some (.type "int") := by decide +kernel
theorem bt_bool : bootBuiltins "bool" = some (.type "bool") := by decide +kernel
theorem bt_list : bootBuiltins "list" = some (.type "list") := by decide +kernel
theorem bt_tuple : bootBuiltins "tuple" = some (.type "tuple") := by decide +kernel
theorem bt_str : bootBuiltins "str" = some (.type "str") := by decide +kernel
theorem bt_dict : bootBuiltins "dict" = some (.type "dict") := by decide +kernel
/-! ## heaps -/
theorem same_upd {H : Hp} {p : Addr} {o : HO} (h : H p = none) : Same H (upd H p o) := fun b x e => by
  rw [upd_ne (ne_of_none e h)]
  exact e
theorem same_put {H H' : Hp} {p : Addr} {o : HO} (s : Same H H') (n : H p = none) : Same H (upd H' p o) := fun b x e => by
  rw [upd_ne (ne_of_none e n)]
  exact s b x e
theorem same_new {H H' : Hp} {p : Addr} {o : HO} (s : Same H H') (n : H' p = none) : Same H (upd H' p o) := s.trans (same_upd n)
theorem same_tup {K : PySem.W.Frag} {H H' : Hp} {a : Addr} {xs : List V} (e : Same H H') (h : SqT K H a xs) : SqT K H' a xs := by
  rcases h with (h | ⟨o, h⟩) | h
  · exact .inl (.inl (e _ _ h))
  · exact .inl (.inr ⟨o, e _ _ h⟩)
  · exact .inr h
/-- all but the object at p is as it was -/
def Keep (p : Addr) (H H' : Hp) : Prop := ∀ b o, H b = some o → b ≠ p → H' b = some o
theorem Keep.refl (p : Addr) (H : Hp) : Keep p H H := fun _ _ h _ => h
theorem Keep.trans {p : Addr} {H H1 H2 : Hp} (a : Keep p H H1) (b : Keep p H1 H2) : Keep p H H2 := fun c o h n => b c o (a c o h n) n
theorem same_keep {p : Addr} {H H' : Hp} (h : Same H H') : Keep p H H' := fun b o e _ => h b o e
theorem keep_upd {p : Addr} {H : Hp} {o : HO} : Keep p H (upd H p o) := fun b x e n => by
  rw [upd_ne n]
  exact e
theorem Keep.seq {K : PySem.W.Frag} {p : Addr} {H H' : Hp} {a : Addr} {xs : List V} (e : Keep p H H') (h : SqL K H a xs) (n : a ≠ p) : SqL K H' a xs := by
  rcases h with (h | ⟨o, h⟩) | h
  · exact .inl (.inl (e _ _ h n))
  · exact .inl (.inr ⟨o, e _ _ h n⟩)
  · exact .inr h
/-- is it an integer (and no bool)? -/
def IsI (K : PySem.W.Frag) (H : Hp) (v : V) (b : Bool) : Prop := ∃ t b1 b2, TyX K H v t ∧
  PySem.W.kitOne K t (.type "int") = some b1 ∧ PySem.W.kitOne K t (.type "bool") = some b2 ∧ b = (b1 && !b2)
theorem isI_int {K : PySem.W.Frag} {H : Hp} (i : Int) : IsI K H (.int i) true :=
  ⟨_, true, false, .base (.int i), kit_ty (by decide +kernel), kit_ty (by decide +kernel), rfl⟩
theorem isI_non {K : PySem.W.Frag} {H : Hp} : IsI K H .non false :=
  ⟨_, false, false, .base .non, kit_ty (by decide +kernel), kit_ty (by decide +kernel), rfl⟩
theorem isI_bl {K : PySem.W.Frag} {H : Hp} (b : Bool) : IsI K H (.bl b) false :=
  ⟨_, true, true, .base (.bl b), kit_ty (by decide +kernel), kit_ty (by decide +kernel), rfl⟩
theorem isI_str {K : PySem.W.Frag} {H : Hp} (x : Str) : IsI K H (.str x) false :=
  ⟨_, false, false, .base (.str x), kit_ty (by decide +kernel), kit_ty (by decide +kernel), rfl⟩
theorem isI_lst {K : PySem.W.Frag} {H : Hp} {a : Addr} {xs : List V} (h : H a = some (.lst xs)) : IsI K H (.ref a) false :=
  ⟨_, false, false, .base (.lst h), kit_ty (by decide +kernel), kit_ty (by decide +kernel), rfl⟩
theorem isI_tup {K : PySem.W.Frag} {H : Hp} {a : Addr} {xs : List V} (h : H a = some (.tup xs)) : IsI K H (.ref a) false :=
  ⟨_, false, false, .base (.tup h), kit_ty (by decide +kernel), kit_ty (by decide +kernel), rfl⟩
theorem isI_dK {K : PySem.W.Frag} {H : Hp} {a : Addr} {xs : List (Key × V)} (h : H a = some (.dK xs)) : IsI K H (.ref a) false :=
  ⟨_, false, false, .base (.dK h), kit_ty (by decide +kernel), kit_ty (by decide +kernel), rfl⟩
end Bx

set_option maxHeartbeats 4000000
namespace Bx
open PySem PySem.Spec PyProof.Rows L2
/-! ## operators on numbers that are not negative -/
abbrev rN (C : Nat → Nat → Prop) (g : Nat → Nat → Nat) : V → V → Hp → VK → Prop :=
  fun x y H Q => ∃ a b : Nat, x = .int a ∧ y = .int b ∧ C a b ∧ Q (.int (g a b : Nat)) H
abbrev rN0 (g : Nat → Nat → Nat) : V → V → Hp → VK → Prop :=
  fun x y H Q => ∃ a b : Nat, x = .int a ∧ y = .int b ∧ Q (.int (g a b : Nat)) H
section
variable {X : Cx}
theorem op_bxor : OpR X (binaryOp .BitXor) (rN0 (· ^^^ ·)) := by
  intro pins s σ H x y v u Q I r1 r2 h
  obtain ⟨a, b, rfl, rfl, q⟩ := h
  refine op_xor pins s σ H _ _ v u Q I r1 r2 ⟨_, _, rfl, rfl, ?_⟩
  show Q (.int (Builtin.bitXor a b)) H
  rw [Bits.bitXor_pp (Int.natCast_nonneg a) (Int.natCast_nonneg b), Int.toNat_natCast, Int.toNat_natCast]
  exact q
theorem op_band : OpR X (binaryOp .BitAnd) (rN0 (· &&& ·)) := by
  intro pins s σ H x y v u Q I r1 r2 h
  obtain ⟨a, b, rfl, rfl, q⟩ := h
  refine op_and pins s σ H _ _ v u Q I r1 r2 ⟨_, _, rfl, rfl, ?_⟩
  show Q (.int (Builtin.bitAnd a b)) H
  rw [bitAnd_pp (Int.natCast_nonneg a) (Int.natCast_nonneg b), Int.toNat_natCast, Int.toNat_natCast]
  exact q
theorem op_bor : OpR X (binaryOp .BitOr) (rN0 (· ||| ·)) := by
  intro pins s σ H x y v u Q I r1 r2 h
  obtain ⟨a, b, rfl, rfl, q⟩ := h
  refine op_or pins s σ H _ _ v u Q I r1 r2 ⟨_, _, rfl, rfl, ?_⟩
  show Q (.int (Builtin.bitOr a b)) H
  rw [Bits.bitOr_pp (Int.natCast_nonneg a) (Int.natCast_nonneg b), Int.toNat_natCast, Int.toNat_natCast]
  exact q
theorem shr_cast (a k : Nat) : ((a : Int) / 2 ^ k) = ((a >>> k : Nat) : Int) := by
  rw [Nat.shiftRight_eq_div_pow, Int.natCast_ediv, Int.natCast_pow]
  rfl
theorem op_bshr : OpR X (binaryOp .RShift) (rN0 (· >>> ·)) := by
  intro pins s σ H x y v u Q I r1 r2 h
  obtain ⟨a, b, rfl, rfl, q⟩ := h
  refine op_shr pins s σ H _ _ v u Q I r1 r2 ⟨_, _, rfl, rfl, Int.natCast_nonneg b, ?_⟩
  show Q (.int ((a : Int) / 2 ^ (b : Int).toNat)) H
  rw [Int.toNat_natCast, shr_cast]
  exact q
theorem shl_cast (a k : Nat) : ((a : Int) * 2 ^ k) = ((a <<< k : Nat) : Int) := by
  rw [Nat.shiftLeft_eq, Int.natCast_mul, Int.natCast_pow]
  rfl
/-- 1 << k, and any small number -/
theorem op_bshl : OpR X (binaryOp .LShift) (rN (fun a k => k ≤ 1000000 ∧ a < 2 ^ 64) (· <<< ·)) := by
  intro pins s σ H x y v u Q I r1 r2 h
  obtain ⟨a, b, rfl, rfl, ⟨c1, c2⟩, q⟩ := h
  refine op_shl pins s σ H _ _ v u Q I r1 r2 ⟨_, _, rfl, rfl, ⟨Int.natCast_nonneg b, by omega, by rw [Int.natAbs_natCast]; exact c2⟩, ?_⟩
  show Q (.int ((a : Int) * 2 ^ (b : Int).toNat)) H
  rw [Int.toNat_natCast, shl_cast]
  exact q
end
/-! ## bits -/
/-- the sum, modulo 2, of the bits below m -/
def xorB (n : Nat) : Nat → Bool
  | 0 => false
  | m + 1 => xor (xorB n m) (n.testBit m)
theorem xorB_fold (n : Nat) (m : Nat) : ∀ j, j ≤ m → xorB (n ^^^ n >>> m) j = xor (xorB n j) (xor (xorB n (m + j)) (xorB n m))
  | 0, _ => by simp [xorB]
  | j + 1, h => by
    have ih := xorB_fold n m j (by omega)
    show xor (xorB (n ^^^ n >>> m) j) ((n ^^^ n >>> m).testBit j) = xor (xor (xorB n j) (n.testBit j)) (xor (xor (xorB n (m + j)) (n.testBit (m + j))) (xorB n m))
    rw [ih, Nat.testBit_xor, Nat.testBit_shiftRight]
    cases xorB n j <;> cases xorB n (m + j) <;> cases xorB n m <;> cases n.testBit j <;> cases n.testBit (m + j) <;> rfl
theorem xorB_half (n m : Nat) : xorB (n ^^^ n >>> m) m = xorB n (m + m) := by
  rw [xorB_fold n m m (Nat.le_refl m)]
  cases xorB n m <;> cases xorB n (m + m) <;> rfl
/-- what parity_of makes -/
def parN (n : Nat) : Nat := (xorB n 256).toNat
def foldH (n : Nat) : List Nat → Nat
  | [] => n
  | h :: r => foldH (n ^^^ n >>> h) r
theorem par_end (n : Nat) : n &&& 1 = (xorB n 1).toNat := by
  show n &&& 1 = (xor false (n.testBit 0)).toNat
  rw [Bool.false_xor, Nat.testBit_zero, Nat.and_one_is_mod]
  rcases Nat.mod_two_eq_zero_or_one n with h | h <;> rw [h] <;> rfl
theorem par_fold (n : Nat) : foldH n [128, 64, 32, 16, 8, 4, 2, 1] &&& 1 = parN n := by
  rw [par_end]
  unfold parN
  simp only [foldH]
  rw [xorB_half _ 1, xorB_half _ 2, xorB_half _ 4, xorB_half _ 8, xorB_half _ 16, xorB_half _ 32, xorB_half _ 64, xorB_half _ 128]
theorem parN_lt (n : Nat) : parN n < 2 := by
  unfold parN
  cases xorB n 256 <;> decide
theorem foldH_take (n : Nat) (hs : List Nat) (i : Nat) (h : Nat) (e : hs[i]? = some h) : foldH n (hs.take (i + 1)) = foldH n (hs.take i) ^^^ foldH n (hs.take i) >>> h := by
  induction hs generalizing n i with
  | nil => cases e
  | cons x r ih =>
    cases i with
    | zero =>
      obtain rfl : x = h := Option.some.inj e
      rfl
    | succ i =>
      show foldH (n ^^^ n >>> x) (r.take (i + 1)) = _
      rw [ih _ i e]
      rfl
/-- what leading_of makes: (rest, found) -/
def leadStep (p : Nat × Nat) (h : Nat) : Nat × Nat := if p.1 >>> h > 0 then (p.1 >>> h, p.2 + h) else p
theorem log2_shr (n h : Nat) (p : n >>> h > 0) : n.log2 = (n >>> h).log2 + h := by
  have hn : n ≠ 0 := by
    intro e
    rw [e, Nat.zero_shiftRight] at p
    omega
  have h1 : n >>> h ≠ 0 := by omega
  rw [Nat.log2_eq_iff hn]
  rw [Nat.shiftRight_eq_div_pow] at h1 p ⊢
  have a := Nat.log2_self_le h1
  have b := Nat.lt_log2_self (n := n / 2 ^ h)
  constructor
  · rw [Nat.pow_add]
    exact Nat.le_trans (Nat.mul_le_mul_right _ a) (Nat.div_mul_le_self n (2 ^ h))
  · have c : n / 2 ^ h + 1 ≤ 2 ^ ((n / 2 ^ h).log2 + 1) := b
    have d : n < (n / 2 ^ h + 1) * 2 ^ h := by
      have := Nat.lt_succ_self n
      exact Nat.lt_mul_of_div_lt (Nat.lt_succ_self _) (Nat.two_pow_pos h)
    refine Nat.lt_of_lt_of_le d ?_
    refine Nat.le_trans (Nat.mul_le_mul_right _ c) ?_
    rw [← Nat.pow_add]
    exact Nat.pow_le_pow_right (by decide) (by omega)
theorem leadStep_inv (n : Nat) (p : Nat × Nat) (h : Nat) (hp : 0 < p.1) (hb : p.1 < 2 ^ (h + h)) (e : n.log2 = p.2 + p.1.log2) :
    0 < (leadStep p h).1 ∧ (leadStep p h).1 < 2 ^ h ∧ n.log2 = (leadStep p h).2 + (leadStep p h).1.log2 := by
  unfold leadStep
  split
  · rename_i q
    refine ⟨q, ?_, ?_⟩
    · show p.1 >>> h < 2 ^ h
      rw [Nat.shiftRight_eq_div_pow]
      rw [Nat.pow_add] at hb
      exact Nat.div_lt_of_lt_mul hb
    · show n.log2 = p.2 + h + (p.1 >>> h).log2
      rw [e, log2_shr p.1 h q]
      omega
  · rename_i q
    refine ⟨hp, ?_, e⟩
    rw [Nat.shiftRight_eq_div_pow] at q
    have : p.1 / 2 ^ h = 0 := Nat.eq_zero_of_not_pos q
    exact (Nat.div_eq_zero_iff_lt (Nat.two_pow_pos h)).mp this
theorem lead_fold (n : Nat) (h0 : 0 < n) (hb : n < 2 ^ 256) : (([128, 64, 32, 16, 8, 4, 2, 1] : List Nat).foldl leadStep (n, 0)).2 = n.log2 := by
  simp only [List.foldl]
  have s1 := leadStep_inv n (n, 0) 128 h0 hb (by show n.log2 = 0 + n.log2; omega)
  have s2 := leadStep_inv n _ 64 s1.1 s1.2.1 s1.2.2
  have s3 := leadStep_inv n _ 32 s2.1 s2.2.1 s2.2.2
  have s4 := leadStep_inv n _ 16 s3.1 s3.2.1 s3.2.2
  have s5 := leadStep_inv n _ 8 s4.1 s4.2.1 s4.2.2
  have s6 := leadStep_inv n _ 4 s5.1 s5.2.1 s5.2.2
  have s7 := leadStep_inv n _ 2 s6.1 s6.2.1 s6.2.2
  have s8 := leadStep_inv n _ 1 s7.1 s7.2.1 s7.2.2
  obtain ⟨p, q, r⟩ := s8
  have one : (leadStep (leadStep (leadStep (leadStep (leadStep (leadStep (leadStep (leadStep (n, 0) 128) 64) 32) 16) 8) 4) 2) 1).1 = 1 := by
    have q2 : (leadStep (leadStep (leadStep (leadStep (leadStep (leadStep (leadStep (leadStep (n, 0) 128) 64) 32) 16) 8) 4) 2) 1).1 < 2 := q
    omega
  rw [one] at r
  have : Nat.log2 1 = 0 := by decide
  omega
/-- the positions of the ones -/
def bitsN (n : Nat) : List Nat := (List.range (n.log2 + 1)).filter n.testBit
theorem testBit_log2 {n k : Nat} (h : n.testBit k = true) : k < n.log2 + 1 := by
  have h1 : 2 ^ k ≤ n := Nat.ge_two_pow_of_testBit h
  have hn : n ≠ 0 := by
    intro e
    rw [e, Nat.zero_testBit] at h
    cases h
  have h2 := (Nat.le_log2 hn).mpr h1
  omega
theorem filter_range_more (p : Nat → Bool) (a : Nat) : ∀ b, (∀ k, p k = true → k < a) → (List.range (a + b)).filter p = (List.range a).filter p
  | 0, _ => rfl
  | b + 1, h => by
    rw [show a + (b + 1) = (a + b) + 1 from rfl, List.range_succ, List.filter_append, filter_range_more p a b h]
    have : p (a + b) = false := by
      cases e : p (a + b) with
      | false => rfl
      | true =>
        have := h _ e
        omega
    simp [this]
theorem filter_range_eq {p : Nat → Bool} {a b : Nat} (ha : ∀ k, p k = true → k < a) (hb : ∀ k, p k = true → k < b) : (List.range a).filter p = (List.range b).filter p := by
  rcases Nat.le_total a b with h | h
  · obtain ⟨c, rfl⟩ := Nat.exists_eq_add_of_le h
    exact (filter_range_more p a c ha).symm
  · obtain ⟨c, rfl⟩ := Nat.exists_eq_add_of_le h
    exact filter_range_more p b c hb
theorem bitsN_of {n m : Nat} (h : ∀ k, n.testBit k = true → k < m) : (List.range m).filter n.testBit = bitsN n :=
  filter_range_eq h fun _ e => testBit_log2 e
theorem mem_bitsN {n k : Nat} : k ∈ bitsN n ↔ n.testBit k = true := by
  unfold bitsN
  rw [List.mem_filter, List.mem_range]
  exact ⟨fun h => h.2, fun h => ⟨testBit_log2 h, h⟩⟩
theorem shr_one (n k : Nat) : n >>> k &&& 1 = (n.testBit k).toNat := by
  rw [Nat.testBit_eq_decide_div_mod_eq, Nat.shiftRight_eq_div_pow, Nat.and_one_is_mod]
  rcases Nat.mod_two_eq_zero_or_one (n / 2 ^ k) with h | h <;> rw [h] <;> rfl
theorem one_shl_testBit (k j : Nat) : (1 <<< k).testBit j = decide (k = j) := by
  rw [Nat.one_shiftLeft, Nat.testBit_two_pow]
/-- the word with ones at some positions -/
def orAll (ks : List Nat) : Nat := ks.foldl (fun n k => n ||| 1 <<< k) 0
theorem orAll_snoc (ks : List Nat) (k : Nat) : orAll (ks ++ [k]) = orAll ks ||| 1 <<< k := by
  unfold orAll
  rw [List.foldl_append]
  rfl
theorem orAll_fold (ks : List Nat) (m j : Nat) : (ks.foldl (fun n k => n ||| 1 <<< k) m).testBit j = (m.testBit j || decide (j ∈ ks)) := by
  induction ks generalizing m with
  | nil => simp
  | cons k r ih =>
    rw [List.foldl_cons, ih, Nat.testBit_or, one_shl_testBit]
    by_cases e : k = j
    · subst e
      simp
    · have e2 : ¬ j = k := fun z => e z.symm
      simp [e, e2]
theorem orAll_testBit (ks : List Nat) (j : Nat) : (orAll ks).testBit j = decide (j ∈ ks) := by
  unfold orAll
  rw [orAll_fold, Nat.zero_testBit, Bool.false_or]
/-! ## bits in a list -/
/-- the number whose bits these are, the lowest first -/
def numB : List Nat → Nat
  | [] => 0
  | b :: r => b + 2 * numB r
theorem numB_testBit : ∀ (fs : List Nat), (∀ b ∈ fs, b < 2) → ∀ k, (numB fs).testBit k = decide (fs[k]? = some 1)
  | [], _, k => by simp [numB]
  | b :: r, h, k => by
    have hb : b < 2 := h b (List.mem_cons_self ..)
    have hr : ∀ b ∈ r, b < 2 := fun c hc => h c (List.mem_cons_of_mem _ hc)
    have ih := numB_testBit r hr
    cases k with
    | zero =>
      show (b + 2 * numB r).testBit 0 = _
      rw [Nat.testBit_zero]
      have : (b + 2 * numB r) % 2 = b := by omega
      rw [this]
      simp
    | succ k =>
      show (b + 2 * numB r).testBit (k + 1) = _
      rw [Nat.testBit_succ]
      have : (b + 2 * numB r) / 2 = numB r := by omega
      rw [this, ih k]
      simp
theorem numB_lt : ∀ (fs : List Nat), (∀ b ∈ fs, b < 2) → numB fs < 2 ^ fs.length
  | [], _ => by decide
  | b :: r, h => by
    have hb : b < 2 := h b (List.mem_cons_self ..)
    have ih := numB_lt r fun c hc => h c (List.mem_cons_of_mem _ hc)
    show b + 2 * numB r < 2 ^ (r.length + 1)
    rw [Nat.pow_succ]
    omega
theorem xorB_num : ∀ (fs : List Nat), (∀ b ∈ fs, b < 2) → ∀ m, (xorB (numB fs) m).toNat = (fs.take m).sum % 2 := by
  intro fs h m
  induction m with
  | zero => simp [xorB]
  | succ m ih =>
    show (xor (xorB (numB fs) m) ((numB fs).testBit m)).toNat = _
    rw [numB_testBit fs h m, List.take_add_one, List.sum_append]
    have key : (xor (xorB (numB fs) m) (decide (fs[m]? = some 1))).toNat = ((xorB (numB fs) m).toNat + (decide (fs[m]? = some 1)).toNat) % 2 := by
      cases xorB (numB fs) m <;> cases decide (fs[m]? = some 1) <;> rfl
    rw [key, ih]
    cases e : fs[m]? with
    | none => simp
    | some b =>
      have hb : b < 2 := h b (List.mem_of_getElem? e)
      have : b = 0 ∨ b = 1 := by omega
      rcases this with rfl | rfl
      · simp
      · simp [Nat.add_mod]
theorem parN_num (fs : List Nat) (h : ∀ b ∈ fs, b < 2) (hl : fs.length ≤ 256) : parN (numB fs) = fs.sum % 2 := by
  unfold parN
  rw [xorB_num fs h, List.take_of_length_le hl]
end Bx

set_option maxHeartbeats 4000000
namespace Bx
open PySem PySem.Spec PyProof.Rows L2
open AutoSeq1 (wpAny_loadPart')
/-! ## enumerate(tuple) -/
theorem draws_tuple {prog : Program} {w : World} {A : Around} (hh : A.handled = none) {it l : Addr} (ne : l ≠ it) (items : Array Value) :
    Draws prog w A it [it, l] items.size (fun i v => items[i]? = some v) (fun i h => h.IsTupleIter it l i ∧ h.IsTuple l items) where
  live := fun _ _ ⟨⟨o, ho, _⟩, _⟩ => ⟨o, ho⟩
  frame := fun _ _ _ ⟨a, o, ho, r⟩ hk => ⟨a.at fun o e => hk it (List.mem_cons_self ..) o e, o, hk l (by simp) o ho, r⟩
  item := fun i s Q E hi ⟨a, b⟩ hQ => by
    refine RZ.nextOf_tuple_item a b (x := items[i]) (by simp [hi]) fun h' a' sb => ?_
    obtain ⟨o, ho, r⟩ := b
    exact hQ _ h' s.toks (by simp [hi]) ⟨a', o, sb.extBut l o ne ho, r⟩ sb
  done := fun s Q E ⟨a, b⟩ hE => RZ.nextOf_tuple_end hh a b (by simp) hE
theorem meets_enumT (l : Addr) (items : Array Value) : Meets (Builtin.«enumerate.__new__» ⟨[.type "enumerate", .ref l], []⟩)
    (fun _ R s => s.heap.IsTuple l items ∧ R (.ok (.ret (.ref (RZ.zipTH1 s.heap l).objs.size)))
      { s with heap := (RZ.zipTH1 s.heap l).push { cls := .type "enumerate", data := .fields #[.none, .bool false, .ref s.heap.objs.size, rawInt 0, .none, .none] } }) :=
  .of_wp fun prog w A R s h => by
    obtain ⟨hp, g, d, tk, os⟩ := s
    obtain ⟨hT, h⟩ := h
    obtain ⟨⟨c, dct, dt, sl⟩, hl, hc, n, hd⟩ := id hT
    have ec : c = .type "tuple" := hc
    have ed : dt = .seq items n := hd
    subst ec ed
    have hsub := sub_enumerate
    wp_walk using wpAny_loadPart' hl
    refine wpAny_stack_any fun st => wpAny_pure ?_
    split
    · rename_i c _ _ _ _ _
      cases (c == Value.type "enumerate") <;> (wp_walk using wpAny_loadPart' hl, wpAny_pyIter_tuple hT; exact ⟨_, rfl, h⟩)
    · wp_walk using wpAny_loadPart' hl, wpAny_pyIter_tuple hT
      exact ⟨_, rfl, h⟩
theorem call_enumT {prog : Program} {w : World} {A : Around} {E : Value → Shared → Prop} {s : Shared} {l : Addr} {items : Array Value} {Q : Value → Shared → Prop} (hT : s.heap.IsTuple l items)
    (h : ∀ h', IsEnum h' (s.heap.objs.size + 1) s.heap.objs.size 0 .none → h'.IsTupleIter s.heap.objs.size l 0 →
      (∀ b o, s.heap.get? b = some o → h'.get? b = some o) → Q (.ref (s.heap.objs.size + 1)) { s with heap := h' }) :
    wpAny (model prog w) A (call (.type "enumerate") [.ref l]) Q E s := by
  refine callType_new F.called_enumerate (by decide) (F.typeCall_enumerate_1 _) (F.newCall_enumerate_1 _)
    (fun obj => F.args_object_init_2 obj _) F.entry_enumerate_new (meets_enumT l items) ⟨hT, ?_⟩
  have hz : (RZ.zipTH1 s.heap l).objs.size = s.heap.objs.size + 1 := Heap.size_push ..
  have he : IsEnum ((RZ.zipTH1 s.heap l).push { cls := .type "enumerate", data := .fields #[.none, .bool false, .ref s.heap.objs.size, rawInt 0, .none, .none] })
      (s.heap.objs.size + 1) s.heap.objs.size 0 .none := by
    have e := Heap.get?_push_size (RZ.zipTH1 s.heap l)
      (o := { cls := .type "enumerate", data := .fields #[.none, .bool false, .ref s.heap.objs.size, rawInt 0, .none, .none] }) rfl
    rw [hz] at e
    exact e
  show _ ∧ _
  rw [hz]
  exact ⟨⟨_, he, rfl⟩, h _ he ⟨_, Heap.get?_push_of_some _ (Heap.get?_push_size _ rfl), rfl, rfl⟩ fun b o e => Heap.get?_push_of_some _ (Heap.get?_push_of_some _ e)⟩
/-- the tuple at a, each item in a new pair with its place -/
def IteT (K : PySem.W.Frag) (a : Addr) : It where
  go := fun i H => ∃ (xs : List V) (x : V), SqT K H a xs ∧ xs[i]? = some x
  yld := fun i H v H' => ∃ T x, v = .ref T ∧ H T = none ∧ H' = upd H T (.tup [.int (i : Nat), x]) ∧ ∀ xs, SqT K H a xs → xs[i]? = some x
  stop := fun i H => ∃ xs : List V, SqT K H a xs ∧ xs.length = i
theorem turn_enumT {P : Program} {w : World} {K : PySem.W.Frag} {elts : List Expr} {kk : Nat} {tpos : Pos} (a e it : Addr) :
    Turn P w K (.Tuple elts kk tpos) (IteT K a) [e, it] e
      (fun i h => (∃ old, IsEnum h e it ((i : Nat) : Int) old) ∧ h.IsTupleIter it a i ∧ e ≠ it ∧ a ≠ it ∧ a ≠ e) where
  mem := List.mem_cons_self ..
  obj := by
    rintro i h ⟨⟨old, he⟩, ⟨o, ho, hc, hd⟩, _⟩ b hb
    rcases List.mem_cons.mp hb with z | hb
    · subst z
      exact ⟨_, he, fun v q => nomatch q⟩
    · rw [List.mem_singleton.mp hb]
      exact ⟨o, ho, fun v q => by rw [hd] at q; cases q⟩
  keep := by
    rintro i h h' ⟨⟨old, he⟩, hi, r⟩ k
    exact ⟨⟨old, k e (by simp) _ he⟩, hi.at fun o q => k it (by simp) o q, r⟩
  item := by
    intro X hP hw hK hc i pins s σ H E I hf st hg
    subst hP hw hK
    obtain ⟨⟨old, he⟩, hit, hne, hai, hae⟩ := st
    obtain ⟨xs, x, hq, hx⟩ := hg
    obtain ⟨its, rv, p, hz⟩ := I.tuple hq
    obtain ⟨u, hu, ru⟩ := rv.get hx
    have hel : e < s.heap.objs.size := Heap.lt_size he
    have hil : it < s.heap.objs.size := by
      obtain ⟨_, q, _⟩ := hit
      exact Heap.lt_size q
    have il : i < its.toArray.size := by
      rw [List.size_toArray]
      exact (List.getElem?_eq_some_iff.mp hu).1
    have D : Draws X.prog X.w X.A.in1 it [it, a] its.toArray.size _ _ := draws_tuple (A := X.A.in1) (I.ok.hd hc) hai its.toArray
    refine wpAny_pyNext_enum_itemD D he ⟨hit, p⟩ il hne (by simp [hne, Ne.symm hae]) fun y h' tk hy ho st' hT hsz hk => ?_
    have ey : y = u := by
      have hy2 : its[i]? = some y := by simpa using hy
      exact Option.some.inj (hy2.symm.trans hu)
    subst ey
    refine ⟨_, rfl, wpAny_letOwnedTupleGo_enum (s := { s with heap := h', toks := tk + 1 }) ho fun h2 he2 sb => ?_⟩
    have hT2 : h2.get? s.heap.objs.size = some { cls := .type "tuple", data := .seq #[.int i tk, y] } := (sb.2 _ (Nat.ne_of_gt hel)).trans hT
    have new : ObjOk X.prog X.w (upd H s.heap.objs.size (.tup [.int (i : Nat), x])) h2 s.heap.objs.size (.tup [.int (i : Nat), x]) :=
      ⟨by show 2 ≤ sizeLine; decide, [.int i tk, y], .cons ⟨_, rfl⟩ (.cons ru .nil), _, hT2, rfl, _, rfl⟩
    have I1 := I.turnedNew (t' := tk + 1) (ch := [e, it]) (fun b ob hb q => (sb.2 b (fun z => hb (by simp [z]))).trans (hk b ob (fun z => hb (by simp [z])) (fun z => hb (by simp [z])) q)) hf (Nat.le_refl _) new
    refine ⟨.ref s.heap.objs.size, _, I1, rfl, ⟨_, x, rfl, I.hok.fresh (Nat.le_refl _), rfl, fun ys hy => by rw [I.tuple_inj hy hq]; exact hx⟩, ⟨⟨y, ?_⟩, st'.1.at fun o q => (sb.2 it (Ne.symm hne)).trans q, hne, hai, hae⟩, fun b hb => ?_⟩
    · rw [show ((i + 1 : Nat) : Int) = (i : Int) + 1 by omega]
      exact he2
    · have lt : b < s.heap.objs.size := by
        rcases List.mem_cons.mp hb with z | hb
        · rw [z]; exact hel
        · rw [List.mem_singleton.mp hb]; exact hil
      rw [upd_ne (Nat.ne_of_lt lt)]
      exact (hf b hb).1
  done := by
    intro X hP hw hK hc i pins s σ H E I hf st hg
    subst hP hw hK
    obtain ⟨⟨old, he⟩, hit, hne, hai, hae⟩ := st
    obtain ⟨xs, hq, hx⟩ := hg
    obtain ⟨its, rv, p, hz⟩ := I.tuple hq
    obtain ⟨f0, f1, f2, f3, f4, f5⟩ := hf it (by simp)
    have el : i = its.toArray.size := by
      rw [List.size_toArray, ← rv.length, hx]
    have D : Draws X.prog X.w X.A.in1 it [it, a] its.toArray.size _ _ := draws_tuple (A := X.A.in1) (I.ok.hd hc) hai its.toArray
    subst el
    refine wpAny_pyNext_enum_endD D he ⟨hit, p⟩ fun h' eb => ⟨rfl, ?_⟩
    exact I.turned (t' := s.toks) (fun b o hb q => eb b o hb q) f0 f1 f3 f4 f5
  self := fun A i s Q E ⟨⟨_, he⟩, _⟩ h => wpAny_pyIter_enum he h
def iEnumT (K : PySem.W.Frag) (ta : TA) : TI := fun σ H R => ta σ H fun vs H1 => ∃ a xs, vs = [.ref a] ∧ SqT K H1 a xs ∧ R (IteT K a) H1
theorem pi_enumT {X : Cx} {e : Expr} {ta : TA} {p pos tpos : Pos} {elts : List Expr} {kk : Nat} (hg : Gl X "enumerate") (hm : X.mg "enumerate" = none)
    (ha : PA X [e] ta) (hs : starEach [e] X.env = [(false, eval e X.env)] := by rfl) :
    PI X (.Tuple elts kk tpos) (.Call (.Name "enumerate" p) [e] [] pos) (iEnumT X.K ta) := by
  refine ⟨fun pins s σ H R I h => Call_ (ld_blt I hg hm boot_enumerate (PyProof.Rows.callWith_type1
    (thn (ha.run pos pins s σ H _ I h) fun us s1 ⟨vs, H1, I1, r1, q1⟩ => ?_) hs rfl))⟩
  obtain ⟨a, xs, ex, hq, q⟩ := q1
  subst ex
  obtain ⟨u, rfl, r⟩ := vals1 r1
  obtain rfl : u = Value.ref a := r
  obtain ⟨its, rv, pt, hz⟩ := I1.tuple hq
  have hal : a < s1.heap.objs.size := pt.lt
  refine call_enumT pt fun h' he hit hk => wpAny_pyIter_enum he ?_
  have I2 := I1.kept (t' := s1.toks) hk
  refine ⟨s1.heap.objs.size + 1, [s1.heap.objs.size + 1, s1.heap.objs.size], _, _, H1, rfl, I2,
    turn_enumT a (s1.heap.objs.size + 1) s1.heap.objs.size, ⟨⟨.none, he⟩, hit, Nat.succ_ne_self _, Nat.ne_of_lt hal, Nat.ne_of_lt (Nat.lt_succ_of_lt hal)⟩, fun b hb => ?_, q⟩
  have hle : s1.heap.objs.size ≤ b := by
    rcases List.mem_cons.mp hb with z | hb
    · rw [z]; exact Nat.le_succ _
    · rw [List.mem_singleton.mp hb]; exact Nat.le_refl _
  exact I1.fpOk hle (I1.hok.fresh hle)
theorem walk_enumT {K : PySem.W.Frag} {a : Addr} {xs : List V} : Walk (IteT K a) xs.length (fun H => SqT K H a xs) (YPair (fun i => some (.int (i : Nat))) (fun i => xs[i]?)) := by
  refine ⟨fun i _ hi q => ⟨xs, xs[i], q, by simp [hi]⟩, fun _ q => ⟨xs, q, rfl⟩, fun i H v H' _ q y => ?_⟩
  obtain ⟨T, x, h1, h2, h3, h4⟩ := y
  exact ⟨T, .int (i : Nat), x, h1, h2, h3, rfl, h4 xs q⟩
end Bx

set_option maxHeartbeats 4000000
namespace Bx
open PySem PySem.Spec PyProof.Rows L2
/-! ## flat values as data -/
def dOf : V → PyData
  | .bl b => .bool b
  | .int i => .int i
  | .str x => .str x
  | _ => .none
/-- None, a bool, an int of a bounded size -/
def okV : V → Prop
  | .non => True
  | .bl _ => True
  | .int i => i.natAbs.log2 < 1920
  | _ => False
theorem okV_nat {n : Nat} (h : n < 2 ^ 200) : okV (.int n) := by
  show (n : Int).natAbs.log2 < 1920
  rw [Int.natAbs_natCast]
  rcases Nat.eq_zero_or_pos n with z | z
  · subst z
    decide
  · exact (Nat.log2_lt (by omega)).mpr (Nat.lt_of_lt_of_le h (Nat.pow_le_pow_right (by decide) (by decide)))
section
variable {K : PySem.W.Frag} {H : Hp}
theorem dp_ok : ∀ {v : V}, okV v → Dp K H v (dOf v)
  | .non, _ => .non
  | .bl b, _ => .bl b
  | .int i, _ => .int i
theorem dpAll_ok : ∀ {xs : List V}, (∀ v ∈ xs, okV v) → DpAll K H xs (xs.map dOf)
  | [], _ => .nil
  | x :: r, h => .cons (dp_ok (h x (List.mem_cons_self ..))) (dpAll_ok fun v hv => h v (List.mem_cons_of_mem _ hv))
theorem show_ok : ∀ {v : V}, okV v → (dOf v).showable = true ∧ (dOf v).hasDict = false ∧ (dOf v).depth = 0 ∧ (dOf v).shown.length ≤ 1921
  | .non, _ => ⟨rfl, rfl, rfl, by decide +kernel⟩
  | .bl true, _ => ⟨rfl, rfl, rfl, by decide +kernel⟩
  | .bl false, _ => ⟨rfl, rfl, rfl, by decide +kernel⟩
  | .int i, h => ⟨decide_eq_true h, rfl, rfl, int_text_len_1921 h⟩
theorem showAll_ok : ∀ {xs : List V}, (∀ v ∈ xs, okV v) → PyData.showableAll (xs.map dOf) = true ∧ PyData.hasDictAll (xs.map dOf) = false ∧ PyData.depthAll (xs.map dOf) = 0 ∧ ((PyData.shownAll (xs.map dOf)).map (·.length)).sum ≤ 1921 * xs.length ∧ (PyData.shownAll (xs.map dOf)).length = xs.length
  | [], _ => ⟨rfl, rfl, rfl, Nat.le_refl _, rfl⟩
  | x :: r, h => by
    obtain ⟨a1, a2, a3, a4⟩ := show_ok (h x (List.mem_cons_self ..))
    obtain ⟨b1, b2, b3, b4, b5⟩ := showAll_ok (xs := r) fun v hv => h v (List.mem_cons_of_mem _ hv)
    refine ⟨?_, ?_, ?_, ?_, ?_⟩
    · show ((dOf x).showable && PyData.showableAll (r.map dOf)) = true
      rw [a1, b1]
      rfl
    · show ((dOf x).hasDict || PyData.hasDictAll (r.map dOf)) = false
      rw [a2, b2]
      rfl
    · show max (dOf x).depth (PyData.depthAll (r.map dOf)) = 0
      rw [a3, b3]
      rfl
    · show ((dOf x).shown.length :: (PyData.shownAll (r.map dOf)).map (·.length)).sum ≤ 1921 * (r.length + 1)
      rw [List.sum_cons]
      omega
    · show (PyData.shownAll (r.map dOf)).length + 1 = r.length + 1
      rw [b5]
end
theorem tyof_same {K : PySem.W.Frag} {H H' : Hp} {v : V} {t : Value} (s : Same H H') (h : TyOf K H v t) : TyOf K H' v t := by
  cases h with
  | non => exact .non
  | bl x => exact .bl x
  | int i => exact .int i
  | str x => exact .str x
  | flt x => exact .flt x
  | lst e => exact .lst (s _ _ e)
  | frz e => exact .frz (s _ _ e)
  | tup e => exact .tup (s _ _ e)
  | dK e => exact .dK (s _ _ e)
  | dT e => exact .dT (s _ _ e)
  | ins e cl ha hn htk hm => exact .ins (s _ _ e) cl ha hn htk hm
/-- repr of a list of such values -/
def reprL (xs : List V) : Str := (PyData.list (xs.map dOf)).shown
def reprV (v : V) : Str := (dOf v).shown
section
variable {X : Cx}
theorem call_reprL (gd : X.A.guards = some []) (hu : X.A.units + 64 < cLine) :
    CallR X (.builtin "repr") (fun vs H Q => ∃ a xs, vs = [.ref a] ∧ SqL X.K H a xs ∧ (∀ v ∈ xs, okV v) ∧ xs.length ≤ 1000 ∧ Q (.str (reprL xs)) H) := by
  intro pins s σ H vs us Q I r h
  obtain ⟨a, xs, rfl, hS, ok, hl, q⟩ := h
  obtain ⟨b1, b2, b3, b4, b5⟩ := showAll_ok ok
  refine call_repr gd hu pins s σ H _ us Q I r ⟨.ref a, .list (xs.map dOf), rfl, .lst hS (dpAll_ok ok), b1, b2, ?_, ?_, q⟩
  · show PyData.depthAll (xs.map dOf) + 1 ≤ 50
    omega
  · have := listText_len_le (PyData.shownAll (xs.map dOf))
    rw [b5] at this
    have e : sizeLine = 16777216 := by decide
    show (listText (PyData.shownAll (xs.map dOf))).length ≤ sizeLine
    omega
theorem call_reprV (gd : X.A.guards = some []) (hu : X.A.units + 64 < cLine) :
    CallR X (.builtin "repr") (fun vs H Q => ∃ v, vs = [v] ∧ okV v ∧ Q (.str (reprV v)) H) := by
  intro pins s σ H vs us Q I r h
  obtain ⟨v, rfl, ok, q⟩ := h
  obtain ⟨a1, a2, a3, a4⟩ := show_ok ok
  refine call_repr gd hu pins s σ H _ us Q I r ⟨v, _, rfl, dp_ok ok, a1, a2, by omega, Nat.le_trans a4 (by decide), q⟩
theorem canLay_ok : ∀ {xs : List V}, (∀ v ∈ xs, okV v) → PyData.canLayAll0 (xs.map dOf) = true
  | [], _ => rfl
  | x :: r, h => by
    have a : (dOf x).canLay0 = true := by
      have := h x (List.mem_cons_self ..)
      cases x <;> first | rfl | exact this.elim
    show ((dOf x).canLay0 && PyData.canLayAll0 (r.map dOf)) = true
    rw [a, canLay_ok fun v hv => h v (List.mem_cons_of_mem _ hv)]
    rfl
/-- xs != [] -/
theorem op_neNil (hu : X.A.units + 64 < cLine) : OpR X (compareOp .NotEq) (fun x y H Q => ∃ a xs b, x = .ref a ∧ y = .ref b ∧ SqL X.K H a xs ∧ SqL X.K H b [] ∧ (∀ v ∈ xs, okV v) ∧ Q (.bl (!xs.isEmpty)) H) := by
  intro pins s σ H x y v u Q I r1 r2 h
  obtain ⟨a, xs, b, rfl, rfl, hA, hB, ok, q⟩ := h
  obtain ⟨b1, b2, b3, b4, b5⟩ := showAll_ok ok
  refine op_neD hu pins s σ H _ _ v u Q I r1 r2 ⟨.list (xs.map dOf), .list [], .lst hA (dpAll_ok ok), .lst hB .nil, ?_, by decide, ?_⟩
  · unfold SeqAt.shaped
    have c : (PyData.list (xs.map dOf)).canLay0 = true := canLay_ok ok
    rw [c, Bool.true_and]
    refine decide_eq_true ?_
    show PyData.depthAll (xs.map dOf) + 1 ≤ 64
    omega
  · cases xs with
    | nil => exact q
    | cons x r => exact q
end
end Bx

set_option maxHeartbeats 4000000
namespace Bx
open PySem PySem.Spec PyProof.Rows L2
/-! ## own classes -/
/-- the types of values that meet own objects -/
def kinds : List String := ["int", "bool", "str", "list", "tuple", "dict", "NoneType"]
def ownB (K : PySem.W.Frag) (C : Addr) : Bool :=
  PySem.W.plainGet K C Str.empty && (PySem.W.hasDictIn K C && (PySem.W.plainOver K C && (He.eqO (PySem.W.findIn K (.ref C) "__setattr__") (some (some (.builtin "object.__setattr__"))) &&
  (PySem.W.keepIn K (.ref C) && (PySem.W.selfFirst K C && (He.eqO (PySem.W.findIn K (.ref C) "__class__") (some (some (.builtin "object.__class__"))) &&
  (He.eqO (PySem.W.specialIn K (.builtin "object.__class__") "__get__") (some (some (.builtin "getset_descriptor.__get__"))) && (decide (PySem.W.takesIn K (.builtin "object.__class__") = some true) &&
  (decide (PySem.W.mroIn K C (.type "object") = some true) && (PySem.W.makesIn K C && (kinds.all (fun T => decide (PySem.W.kitOne K (.ref C) (.type T) = some false)) &&
  (kinds.all (fun T => decide (PySem.W.kitOne K (.type T) (.ref C) = some false)) && kinds.all (fun T => PySem.W.notFirst K C (.type T))))))))))))))
structure Own (K : PySem.W.Frag) (C : Addr) : Prop where
  cls : Cls K C
  kp : PySem.W.keepIn K (.ref C) = true
  first : PySem.W.selfFirst K C = true
  ca : PySem.W.findIn K (.ref C) "__class__" = some (some (.builtin "object.__class__"))
  cn : PySem.W.specialIn K (.builtin "object.__class__") "__get__" = some (some (.builtin "getset_descriptor.__get__"))
  ct : PySem.W.takesIn K (.builtin "object.__class__") = some true
  cm : PySem.W.mroIn K C (.type "object") = some true
  makes : PySem.W.makesIn K C = true
  no : ∀ T ∈ kinds, PySem.W.kitOne K (.ref C) (.type T) = some false
  on : ∀ T ∈ kinds, PySem.W.kitOne K (.type T) (.ref C) = some false
  nf : ∀ T ∈ kinds, PySem.W.notFirst K C (.type T) = true
theorem ownB_ok {K : PySem.W.Frag} {C : Addr} (h : ownB K C = true) : Own K C := by
  obtain ⟨h1, h⟩ := He.ba h
  obtain ⟨h2, h⟩ := He.ba h
  obtain ⟨h3, h⟩ := He.ba h
  obtain ⟨h4, h⟩ := He.ba h
  obtain ⟨h5, h⟩ := He.ba h
  obtain ⟨h6, h⟩ := He.ba h
  obtain ⟨h7, h⟩ := He.ba h
  obtain ⟨h8, h⟩ := He.ba h
  obtain ⟨h9, h⟩ := He.ba h
  obtain ⟨h10, h⟩ := He.ba h
  obtain ⟨h11, h⟩ := He.ba h
  obtain ⟨h12, h⟩ := He.ba h
  obtain ⟨h13, h14⟩ := He.ba h
  exact ⟨⟨h1, h2, h3, He.eqO_ok h4⟩, h5, h6, He.eqO_ok h7, He.eqO_ok h8, of_decide_eq_true h9, of_decide_eq_true h10, h11,
    fun T hT => of_decide_eq_true (List.all_eq_true.mp h12 T hT), fun T hT => of_decide_eq_true (List.all_eq_true.mp h13 T hT), fun T hT => List.all_eq_true.mp h14 T hT⟩
theorem Own.ty {K : PySem.W.Frag} {C : Addr} {H : Hp} {a dx : Addr} {fs : List (Str × V)} (o : Own K C) (h : H a = some (.ins C dx fs)) : TyX K H (.ref a) (.ref C) := .base (.ins h o.cls o.ca o.cn o.ct o.cm)
theorem Own.self {K : PySem.W.Frag} {C : Addr} (_ : Own K C) : PySem.W.kitOne K (.ref C) (.ref C) = some true := by
  unfold PySem.W.kitOne
  rw [if_pos (by simp)]
theorem Own.nfSelf {K : PySem.W.Frag} {C : Addr} (_ : Own K C) : PySem.W.notFirst K C (.ref C) = true := by
  unfold PySem.W.notFirst
  simp
theorem isI_own {K : PySem.W.Frag} {C : Addr} {H : Hp} {a dx : Addr} {fs : List (Str × V)} (o : Own K C) (h : H a = some (.ins C dx fs)) : IsI K H (.ref a) false :=
  ⟨_, false, false, o.ty h, o.no "int" (by decide), o.no "bool" (by decide), rfl⟩
/-- a method that stands in the class: its place -/
def methB (K : PySem.W.Frag) (C : Addr) (m : Str) : Bool := He.eqO (PySem.W.findIn K (.ref C) m) (some (some (.ref (He.ma K C m)))) && (PySem.W.isFn K (.ref (He.ma K C m)) && PySem.W.keepIn K (.ref (He.ma K C m)))
theorem methB_ok {K : PySem.W.Frag} {C : Addr} {m : Str} (h : methB K C m = true) : Meth K C m (He.ma K C m) := by
  obtain ⟨h1, h⟩ := He.ba h
  obtain ⟨h2, h3⟩ := He.ba h
  exact ⟨He.eqO_ok h1, h2, h3⟩
/-- a property of the class: its getter's place -/
def pgA (K : PySem.W.Frag) (C : Addr) (m : Str) : Addr := match PySem.W.recIn K (He.ma K C m) "property" with
  | some (.ref g :: _) => g
  | _ => 0
def propB (K : PySem.W.Frag) (C : Addr) (m : Str) : Bool := He.eqO (PySem.W.findIn K (.ref C) m) (some (some (.ref (He.ma K C m)))) && (He.eqO (PySem.W.specialIn K (.ref (He.ma K C m)) "__get__") (some (some (.builtin "property.__get__"))) &&
  (decide (PySem.W.takesIn K (.ref (He.ma K C m)) = some true) && (match PySem.W.recIn K (He.ma K C m) "property" with
    | some (.ref _ :: _) => true
    | _ => false)))
theorem propB_ok {K : PySem.W.Frag} {C : Addr} {m : Str} (h : propB K C m = true) : PropOf K C m (He.ma K C m) (pgA K C m) := by
  obtain ⟨h1, h⟩ := He.ba h
  obtain ⟨h2, h⟩ := He.ba h
  obtain ⟨h3, h4⟩ := He.ba h
  refine ⟨He.eqO_ok h1, He.eqO_ok h2, of_decide_eq_true h3, ?_⟩
  unfold pgA
  split at h4
  · rename_i g r e
    exact ⟨r, by rw [e]⟩
  · cases h4
def noatB (K : PySem.W.Frag) (C : Addr) (f : Str) : Bool := He.eqO (PySem.W.findIn K (.ref C) f) (some none)
theorem noatB_ok {K : PySem.W.Frag} {C : Addr} {f : Str} (h : noatB K C f = true) : NoAttr K C f := He.eqO_ok h
/-! ## defs at any place -/
/-- the def st of the text, called x, q in full, stands at f; dvs: its defaults -/
def DefM (K : PySem.W.Frag) (f : Addr) (x q : Str) (st : Stmt) (dvs : List V) : Prop :=
  ∃ fd, FunD K x q (defArgs st) (defBody st) (defScope st) dvs [] f fd
/-- how the parameters of the def st bind, all given by position -/
def BindM (x q : Str) (st : Stmt) (ps : List Str) : Prop :=
  ∀ (kV doc pm : Value) (an : Option Addr) (cdv ct : Value) (us : List Value), us.length = ps.length →
    bindArgs (PySem.W.fnOf x q (defArgs st) (defBody st) (defScope st) .none kV doc pm an cdv ct) ⟨us, []⟩ = pure (ps.zip us)
section
variable {X : Cx} {CX : CXT} {pins : List (Addr × Obj)} {σ : L2.St} {H : Hp} {s : Shared} {k : Nat} {f C : Addr} {ps : List Str} {sp : Sp} {E : XK}
/-- all parameters given: the call runs, in surroundings as deep as A -/
theorem runM {A : Around} {Q : VK} {us : List Value} {vs : List V} {fd : FuncData} (F : FnOk X.prog X.w X.K X.mg X.base CX k f fd ps sp)
    (hb : ∀ us : List Value, us.length = ps.length → bindArgs fd ⟨us, []⟩ = pure (ps.zip us)) (hr : Room k A)
    (e0 : Env0 X.prog X.w X.K X.mg X.base A X.stack s H) (hx : Passes CX X E) (I : Inv X pins σ H s) (r : Vals vs us) (h : sp vs H Q E) :
    wpAny (model X.prog X.w) A (call (.ref f) us) (EP X pins σ Q) X.xe s := by
  have hl : us.length = ps.length := by
    rw [← r.length]
    exact F.len _ _ _ _ h
  refine wpAny_call (codeAny_mono (F.run A X.stack s H ⟨us, []⟩ us vs Q E hr e0 (.of_eq (hb us hl)) r h) fun r s' hq => ?_)
  cases r with
  | error e => exact hx pins σ H s e s' I hq
  | ok fl =>
    cases fl with
    | ret u => exact I.after hq
    | next => exact hq.elim
    | brk => exact hq.elim
    | cont => exact hq.elim
end
/-- an own def without defaults, ready to be called -/
structure FnN (P : Program) (w : World) (K : PySem.W.Frag) (mg : Str → Option Value) (base : Heap) (CX : CXT)
    (k : Nat) (f : Addr) (ps : List Str) (sp : Sp) : Prop where
  ex : ∃ fd, FnOk P w K mg base CX k f fd ps sp ∧ PySem.W.keepIn K (.ref f) = true ∧ (∀ us : List Value, us.length = ps.length → bindArgs fd ⟨us, []⟩ = pure (ps.zip us)) ∧
    ∃ x q st dvs, FunD K x q (defArgs st) (defBody st) (defScope st) dvs [] f fd
section
variable {P : Program} {w : World} {K : PySem.W.Frag} {mg : Str → Option Value} {base : Heap} {CX : CXT} {k : Nat} {f : Addr} {ps : List Str} {sp : Sp}
theorem FnN.mono {j : Nat} (F : FnN P w K mg base CX j f ps sp) (h : j ≤ k) : FnN P w K mg base CX k f ps sp := by
  obtain ⟨fd, F, r⟩ := F.ex
  exact ⟨fd, F.mono h, r⟩
theorem fnN_of {x q : Str} {st : Stmt} {N : List Str} (D : DefM K f x q st [])
    (S : FnScope N ps (defScope st)) (hb : BindM x q st ps) (len : ∀ vs H Q E, sp vs H Q E → vs.length = ps.length)
    (body : ∀ (cdv : Value) (A : Around) (outer : List Env) (s : Shared) (H : Hp) (vs : List V) (Q : VK) (E : XK),
      Room k (A.deeper (envOfC q (defScope st) s.heap.objs.size f cdv)) → sp vs H Q E →
      ∃ t, PSs (cxOf CX P w K mg base N q (defScope st) f cdv A outer s H E).nox (defBody st) t ∧
        t { nx := fun _ H' => Q .non H', rt := Q } (start N vs) H) :
    FnN P w K mg base CX (k + 1) f ps sp := by
  obtain ⟨fd, F⟩ := D
  refine ⟨fd, F.ok S len fun cdv A outer s H vs Q E hr h => let ⟨t, a, b⟩ := body cdv A outer s H vs Q E hr h; ⟨t, PSs.nox a, b⟩, F.kp, fun us hl => ?_, x, q, st, [], F⟩
  obtain ⟨oc, od, dV, kV, doc, pm, an, cdv, ct, osl, rfl, lk, hcd, hd, _⟩ := F.ex
  rcases hd with ⟨_, e⟩ | ⟨e, _⟩
  · subst e
    exact hb kV doc pm an cdv ct us hl
  · exact absurd rfl e
end
section
variable {X : Cx} {CX : CXT} {k : Nat} {f C : Addr} {ps : List Str} {sp : Sp} {E : XK} {x m : Str} {p pos apos : Pos} {e o : Expr} {es : List Expr} {t : TA} {ta : TE}
theorem bindsN {K : PySem.W.Frag} {fd : FuncData} (hb : ∀ us : List Value, us.length = ps.length → bindArgs fd ⟨us, []⟩ = pure (ps.zip us)) : Binds K fd ps [] := .all hb
/-- C(e, ..) -/
theorem pe_mk (o : Own X.K C) (hi : PySem.W.findIn X.K (.ref C) "__init__" = some (some (.ref f)) ∧ PySem.W.isFn X.K (.ref f) = true) (F : FnN X.prog X.w X.K X.mg X.base CX k f ps sp) (hr : Room (k + 1) X.A)
    (hg : Gl X x) (hm : X.mg x = some (.ref C)) (hx : Passes CX X E) (ha : PA X (e :: es) t) (hdb : (x == ("__debug__" : Str)) = false := by decide)
    (he : starEach (e :: es) X.env = (false, eval e X.env) :: starEach es X.env := by rfl) (hpl : (backTo pos (starEach es X.env)).any (·.1) = false := by rfl) :
    PE X (.Call (.Name x p) (e :: es) [] pos) (tMake C sp [] E t) := by
  obtain ⟨fd, G, kp, hb, _⟩ := F.ex
  exact pe_make ⟨o.makes, hi.1, hi.2, o.kp⟩ G hr hg hm (bindsN hb) .nil hx ha hdb he hpl
/-- C(e, ..) by what the making is worth: R of the arguments, the heap and the wish -/
theorem pe_mkW {R : List V → Hp → VK → Prop} (o : Own X.K C) (hi : Meth X.K C "__init__" f) (F : FnN X.prog X.w X.K X.mg X.base CX k f ps sp) (hr : Room (k + 1) X.A)
    (hg : Gl X x) (hm : X.mg x = some (.ref C)) (hx : Passes CX X E) (conv : ∀ vs H Q, R vs H Q → ∀ p dx, H p = none → H dx = none → dx ≠ p →
      sp (.ref p :: vs) (upd (upd H dx (.own p)) p (.ins C dx [])) (fun v H2 => v = .non ∧ Q (.ref p) H2) E) (ha : PA X (e :: es) t) (hdb : (x == ("__debug__" : Str)) = false := by decide)
    (he : starEach (e :: es) X.env = (false, eval e X.env) :: starEach es X.env := by rfl) (hpl : (backTo pos (starEach es X.env)).any (·.1) = false := by rfl) :
    PE X (.Call (.Name x p) (e :: es) [] pos) (fun σ H Q => t σ H fun vs H1 => R vs H1 Q) := by
  obtain ⟨fd, G, kp, hb, _⟩ := F.ex
  refine ⟨fun pins s σ H Q I h => wpAny_Call_Name_kw (ld_glob I hg hm ?_ hdb)⟩
  refine PySem.W.callWith_K (h₀ := X.base) I.ok.mod.kin o.kp (thn (ha.run pos pins s σ H _ I h) fun us s1 ⟨vs, H1, I1, r, q⟩ => ⟨I1.kIn, ?_⟩) he hpl
  refine run_make ⟨o.makes, hi.at_, hi.fn, o.kp⟩ G hr (bindsN hb) .nil hx I1 r fun x dx h1 h2 h3 => ?_
  rw [List.append_nil]
  exact conv vs H1 Q q x dx h1 h2 h3
/-- o.m(e, ..) -/
theorem pe_mth {pl : Sem Bool} (ow : Own X.K C) (he : PE X o ta) (hm : Meth X.K C m f) (F : FnN X.prog X.w X.K X.mg X.base CX k f ps sp) (hr : Room k X.A) (hx : Passes CX X E) (ha : PA X (e :: es) t)
    (hst : starEach (e :: es) X.env = (false, eval e X.env) :: starEach es X.env := by rfl) (hpl : (backTo pos (starEach es X.env)).any (·.1) = false := by rfl)
    (ht : eval (.Call (.Attribute o m apos) (e :: es) [] pos) X.env = (do
      let ov ← eval o X.env
      standAt apos.atName
      let (f, first) ← holding [ov] (getMethod ov m pl)
      callWith pos f first (backTo pos (starEach (e :: es) X.env)) (backToKw pos (keywordEach [] X.env))) := by rfl) :
    PE X (.Call (.Attribute o m apos) (e :: es) [] pos) (tMeth C m sp [] E ta t) := by
  obtain ⟨fd, G, kp, hb, _⟩ := F.ex
  exact pe_meth he ow.cls hm G hr (bindsN hb) .nil hx ha hst hpl ht
/-- o.m() -/
theorem pe_mth0 {pl : Sem Bool} (ow : Own X.K C) (he : PE X o ta) (hm : Meth X.K C m f) (F : FnN X.prog X.w X.K X.mg X.base CX k f ps sp) (hr : Room k X.A) (hx : Passes CX X E)
    (ht : eval (.Call (.Attribute o m apos) [] [] pos) X.env = (do
      let ov ← eval o X.env
      standAt apos.atName
      let (f, first) ← holding [ov] (getMethod ov m pl)
      callWith pos f first (backTo pos (starEach [] X.env)) (backToKw pos (keywordEach [] X.env))) := by rfl) :
    PE X (.Call (.Attribute o m apos) [] [] pos) (tMeth C m sp [] E ta tNil) := by
  obtain ⟨fd, G, kp, hb, _⟩ := F.ex
  exact pe_meth0 he ow.cls hm G hr (bindsN hb) .nil hx ht
/-- o.m, a property -/
theorem pe_prp {pr g : Addr} (ow : Own X.K C) (he : PE X o ta) (hp : PropOf X.K C m pr g) (F : FnN X.prog X.w X.K X.mg X.base CX0 k g ps sp) (hr : Room (k + 1) X.A)
    (hab : attributeBase o m X.env (eval o X.env) = eval o X.env := by rfl) : PE X (.Attribute o m pos) (tProp C sp [] E0 ta) := by
  obtain ⟨fd, G, kp, hb, _⟩ := F.ex
  exact pe_prop he ow.cls hp G hr (bindsN hb) .nil (fun _ _ _ _ _ _ _ z => z.elim) hab
/-! ## operators -/
theorem inst_of {pins : List (Addr × Obj)} {σ : L2.St} {H : Hp} {s : Shared} {a dx : Addr} {fs : List (Str × V)} (I : Inv X pins σ H s) (h : H a = some (.ins C dx fs)) : ∃ ox od, PySem.W.InstAt s.heap a ox C (some od) := by
  obtain ⟨mA, O, _⟩ := ins_get I.hok h
  obtain ⟨od, J, _⟩ := O.look
  exact ⟨_, od, J⟩
def rOwn2 (C : Addr) (sp : Sp) (E : XK) : V → V → Hp → VK → Prop := fun x y H Q => ∃ a b dx fs dy gs, x = .ref a ∧ y = .ref b ∧ H a = some (.ins C dx fs) ∧ H b = some (.ins C dy gs) ∧ sp [x, y] H Q E
/-- a + b and the like, both of the class -/
theorem op_own2 {op : Operator} {g : Addr} (ow : Own X.K C) (hm : Meth X.K C (PySem.dunder op.info.2) g) (F : FnN X.prog X.w X.K X.mg X.base CX k g ps sp) (hr : Room k X.A) (hx : Passes CX X E) : OpR X (binaryOp op) (rOwn2 C sp E) := by
  intro pins s σ H x y v u Q I rx ry h
  obtain ⟨a, b, dx, fs, dy, gs, rfl, rfl, ha, hb, q⟩ := h
  cases (show v = Value.ref a from rx)
  cases (show u = Value.ref b from ry)
  obtain ⟨fd, G, kp, bd, _⟩ := F.ex
  obtain ⟨ox, od, J⟩ := inst_of I ha
  obtain ⟨oy, oe, J'⟩ := inst_of I hb
  obtain ⟨m, hF⟩ := I.fr
  refine PySem.W.binop_K hF I.ok.mod.kin J J'.type ow.first hm.at_ hm.fn (wpAny_mono (runM (us := [.ref a, .ref b]) (vs := [.ref a, .ref b]) G bd hr I.env0 hx I (.cons rfl (.cons rfl .nil)) q) (fun w s' z => ?_) fun _ _ z => z)
  obtain ⟨z', H', I', rz, qz⟩ := z
  exact SlX.cmpback rz ⟨z', H', I', rz, qz⟩
/-- what stands on the right of an own comparison -/
def rOwnC (K : PySem.W.Frag) (C : Addr) (sp : Sp) (E : XK) : V → V → Hp → VK → Prop := fun x y H Q => ∃ a dx fs t, x = .ref a ∧ H a = some (.ins C dx fs) ∧ TyX K H y t ∧ PySem.W.notFirst K C t = true ∧ sp [x, y] H Q E
theorem looks_ty {pins : List (Addr × Obj)} {σ : L2.St} {H : Hp} {s : Shared} {y : V} {u t : Value} (I : Inv X pins σ H s) (r : RelV y u) (ty : TyX X.K H y t) (M : Model) : PySem.W.Looks M s.heap (typeOf u) t := by
  obtain ⟨P, Z, p, _⟩ := kit_of I r ty
  exact Z.ty M s.heap I.kIn p
theorem cmp_is_rich {op : CmpOp} (h : op = .Eq ∨ op = .NotEq) (a b : Value) : compareOp op a b = richCompare op a b := by
  rcases h with rfl | rfl <;> rfl
/-- a == b by an own __eq__ -/
theorem op_ownEq {g : Addr} (hm : Meth X.K C "__eq__" g) (F : FnN X.prog X.w X.K X.mg X.base CX k g ps sp) (hr : Room k X.A) (hx : Passes CX X E) : OpR X (compareOp .Eq) (rOwnC X.K C sp E) := by
  intro pins s σ H x y v u Q I rx ry h
  obtain ⟨a, dx, fs, t, rfl, ha, ty, nf, q⟩ := h
  cases (show v = Value.ref a from rx)
  obtain ⟨fd, G, kp, bd, _⟩ := F.ex
  obtain ⟨ox, od, J⟩ := inst_of I ha
  obtain ⟨m, hF⟩ := I.fr
  rw [cmp_is_rich (.inl rfl)]
  refine PySem.W.cmp_K (op := .Eq) (tb := t) hr.units0 hF I.ok.mod.kin J (looks_ty I ry ty _) nf hm.at_ hm.fn ?_
  refine wpAny_mono (runM (us := [.ref a, u]) (vs := [.ref a, y]) G bd hr I.env0 hx I (.cons rfl (.cons ry .nil)) q) (fun w s' z => ?_) fun _ _ z => z
  obtain ⟨z', H', I', rz, qz⟩ := z
  exact SlX.cmpback rz ⟨z', H', I', rz, qz⟩
/-- a builtin under a special name, asked for where it may not be bound -/
theorem ifBound_B {M : Model} {A : Around} {E : Value → Shared → Prop} {s : Shared} {K : PySem.W.Frag} {a C : Addr} {ox : Obj} {od : Option Obj} {name : Str} {id : String} {args : List Value} {Q : Option Value → Shared → Prop} (X : K.In s.heap) (I : PySem.W.InstAt s.heap a ox C od)
    (hs : PySem.W.findIn K (.ref C) name = some (some (.builtin id))) (hb : ∀ self, bindSpecial (.builtin id) self = pure (.builtin id, [self]))
    (h : wpAny M A (call (.builtin id) (.ref a :: args)) (fun v => Q (some v)) E s) : wpAny M A (callSpecialIfBound? (.ref a) name args) Q E s := by
  simp only [callSpecialIfBound?, bindSpecialIfBound?]
  refine wpAny_holding (wpAny_bind (wpAny_bind (wpAny_bind (I.type.here ((PySem.W.looks_findIn X hs).here ?_)))))
  have fin : wpAny M A (call (.builtin id) ([.ref a] ++ args) >>= fun v => pure (some v)) Q E s := wpAny_bind (wpAny_mono h (fun v s' z => wpAny_pure z) fun _ _ z => z)
  refine wpAny_bind (wpAny_askSetting (wpAny_ite ?_))
  split
  · exact wpAny_bind ((PySem.W.Looks.of_pure (hb _)).here (wpAny_pure (by exact fin)))
  · exact wpAny_tryCatch (wpAny_bind ((PySem.W.Looks.of_pure (hb _)).here (wpAny_pure (by exact fin))))
/-- a != b where the class has an own __eq__ and object's __ne__ -/
theorem op_ownNe {g : Addr} (ow : Own X.K C) (hne : PySem.W.findIn X.K (.ref C) "__ne__" = some (some (.builtin "object.__ne__"))) (hm : Meth X.K C "__eq__" g) (F : FnN X.prog X.w X.K X.mg X.base CX k g ps sp) (hr : Room (k + 1) X.A) (hx : Passes CX X E) :
    OpR X (compareOp .NotEq) (fun x y H Q => rOwnC X.K C sp E x y H fun z H' => ∃ b, z = .bl b ∧ Q (.bl (!b)) H') := by
  intro pins s σ H x y v u Q I rx ry h
  obtain ⟨a, dx, fs, t, rfl, ha, ty, nf, q⟩ := h
  cases (show v = Value.ref a from rx)
  obtain ⟨fd, G, kp, bd, _⟩ := F.ex
  obtain ⟨ox, od, J⟩ := inst_of I ha
  have hr1 : Room k X.A.in1 := hr.in1
  have one : wpAny (model X.prog X.w) X.A (tryCompare (.ref a) "__ne__" u) (fun r s' => ∃ b, r = some (.bool b) ∧ EP X pins σ Q (.bool b) s') X.xe s := by
    unfold tryCompare
    refine wpAny_bind (ifBound_B I.kIn J hne (fun self => PySem.F.slot_object_ne.bind self) ?_)
    refine wpAny_call (codeAny_call_builtin PySem.F.slot_object_ne.plain PySem.F.cmpEntry_ne (PySem.W.check_slot (i := "object.__ne__") (owner := "object") (n := "__ne__") PySem.F.cmpKind_ne PySem.F.cmpSplit_ne
      (J.type.andThen (PySem.W.looks_mroIn I.kIn ow.cm)) (PySem.F.cmpArgs_ne _ _) ?_))
    unfold Builtin.«object.__ne__»
    refine wpAny_bind (m := slotArgs "__ne__" 1 _) (wpAny_pure ?_)
    refine wpAny_bind (m := cRoomFor _ _) (wpAny_cRoomFor hr1.units0 ?_)
    refine wpAny_bind (m := callSpecialIfBound? (.ref a) (Str.ofString "__eq__") _) (PySem.W.ifBound_K I.kIn J hm.at_ hm.fn (wpAny_mono (runM (us := [.ref a, u]) (vs := [.ref a, y]) G bd hr1 I.env0.in1 hx I (.cons rfl (.cons ry .nil)) q) (fun w s' z => ?_) fun _ _ z => z))
    obtain ⟨z', H', I', rz, b, rfl, qz⟩ := z
    cases (show w = Value.bool b from rz)
    refine wpAny_bind (m := truthy (.bool _)) (wpAny_truthy_bool ?_)
    exact wpAny_pure (wpAny_pure ⟨_, rfl, .bl (!b), H', I', rfl, qz⟩)
  rw [cmp_is_rich (.inr rfl)]
  unfold richCompare
  simp only [oneThing_ref]
  refine wpAny_holding (wpAny_bind (wpAny_cRoomFor hr.units0 ?_))
  refine wpAny_bind (J.type.here (wpAny_bind ((looks_ty I ry ty _).here ?_)))
  split
  · rename_i c
    have e : PySem.W.subIn X.K t (.ref C) = some false := by
      rcases Bool.or_eq_true_iff.mp nf with e | e
      · rw [beq_iff_eq.mp e] at c
        simp at c
      · exact beq_iff_eq.mp e
    refine wpAny_bind ((PySem.W.looks_subIn I.kIn e).here ?_)
    simp only [Bool.false_eq_true, if_false]
    refine wpAny_bind (wpAny_mono one (fun r s' z => ?_) fun _ _ z => z)
    obtain ⟨b, rfl, hq⟩ := z
    exact wpAny_pure hq
  · refine wpAny_bind (wpAny_pure ?_)
    simp only [Bool.false_eq_true, if_false]
    refine wpAny_bind (wpAny_mono one (fun r s' z => ?_) fun _ _ z => z)
    obtain ⟨b, rfl, hq⟩ := z
    exact wpAny_pure hq
/-- str(o) by an own __str__ -/
theorem call_strOwn {g : Addr} (hm : Meth X.K C "__str__" g) (F : FnN X.prog X.w X.K X.mg X.base CX k g ps sp) (hr : Room (k + 2) X.A) (hx : Passes CX X E) :
    CallR X (.type "str") (fun xs H Q => ∃ a dx fs, xs = [.ref a] ∧ H a = some (.ins C dx fs) ∧ sp [.ref a] H (fun v H' => ∃ z, v = .str z ∧ Q v H') E) := by
  intro pins s σ H xs us Q I r h
  obtain ⟨a, dx, fs, rfl, ha, q⟩ := h
  obtain ⟨u, rfl, ru⟩ := vals1 r
  cases (show u = Value.ref a from ru)
  obtain ⟨fd, G, kp, bd, _⟩ := F.ex
  obtain ⟨ox, od, J⟩ := inst_of I ha
  have hr2 : Room k X.A.in1.in1 := (show Room (k + 1) X.A.in1 from Room.in1 hr).in1
  refine PySem.W.kso_call hr2.units0 I.kIn J hm.at_ hm.fn (wpAny_mono (runM (us := [.ref a]) (vs := [.ref a]) G bd hr2 I.env0.in1.in1 hx I (.cons rfl .nil) q) (fun w s' z => ?_) fun _ _ z => z)
  obtain ⟨z', H', I', rz, y, rfl, qz⟩ := z
  obtain ⟨tk, rfl⟩ := (show ∃ tk, w = Value.str y tk from rz)
  exact ⟨.str y, H', I', ⟨tk, rfl⟩, qz⟩
/-- repr(o) by an own __repr__ -/
theorem call_reprOwn {g : Addr} (hm : Meth X.K C "__repr__" g) (F : FnN X.prog X.w X.K X.mg X.base CX k g ps sp) (hr : Room (k + 1) X.A) (hx : Passes CX X E) :
    CallR X (.builtin "repr") (fun xs H Q => ∃ a dx fs, xs = [.ref a] ∧ H a = some (.ins C dx fs) ∧ sp [.ref a] H (fun v H' => ∃ z, v = .str z ∧ Q v H') E) := by
  intro pins s σ H xs us Q I r h
  obtain ⟨a, dx, fs, rfl, ha, q⟩ := h
  obtain ⟨u, rfl, ru⟩ := vals1 r
  cases (show u = Value.ref a from ru)
  obtain ⟨fd, G, kp, bd, _⟩ := F.ex
  obtain ⟨ox, od, J⟩ := inst_of I ha
  obtain ⟨m, hF⟩ := I.fr
  have hr1 : Room k X.A.in1 := hr.in1
  refine PySem.W.repr_K hr1.units0 hF I.ok.mod.kin J hm.at_ hm.fn (wpAny_mono (runM (us := [.ref a]) (vs := [.ref a]) G bd hr1 I.env0.in1 hx I (.cons rfl .nil) q) (fun w s' z => ?_) fun _ _ z => z)
  obtain ⟨z', H', I', rz, y, rfl, qz⟩ := z
  obtain ⟨tk, rfl⟩ := (show ∃ tk, w = Value.str y tk from rz)
  exact ⟨.str y, H', I', ⟨tk, rfl⟩, qz⟩
/-- v in o by an own __contains__ that gives a bool -/
theorem op_ownIn {g : Addr} (hm : Meth X.K C "__contains__" g) (F : FnN X.prog X.w X.K X.mg X.base CX k g ps sp) (hr : Room k X.A) (hx : Passes CX X E) :
    OpR X (compareOp .In) (fun x y H Q => ∃ a dx fs, y = .ref a ∧ H a = some (.ins C dx fs) ∧ sp [.ref a, x] H (fun v H' => ∃ b, v = .bl b ∧ Q v H') E) := by
  intro pins s σ H x y v u Q I rx ry h
  obtain ⟨a, dx, fs, rfl, ha, q⟩ := h
  cases (show u = Value.ref a from ry)
  obtain ⟨fd, G, kp, bd, _⟩ := F.ex
  obtain ⟨ox, od, J⟩ := inst_of I ha
  obtain ⟨m, hF⟩ := I.fr
  refine PySem.W.in_K hF I.ok.mod.kin J hm.at_ hm.fn (wpAny_mono (runM (us := [.ref a, v]) (vs := [.ref a, x]) G bd hr I.env0 hx I (.cons rfl (.cons rx .nil)) q) (fun w s' z => ?_) fun _ _ z => z)
  obtain ⟨z', H', I', rz, b, rfl, qz⟩ := z
  cases (show w = Value.bool b from rz)
  exact wpAny_truthy_bool ⟨.bl b, H', I', rfl, qz⟩
end
end Bx
namespace HeX
open PySem PySem.Spec PyProof.Rows L2 He
/-! ## the head's facts, defs at any place -/
def obsF (fa : List Fa) (fn : List He5.DefA) (ex : PySem.W.Frag → Bool) (K : PySem.W.Frag) : AlE := (He5.obsA fa fn K, ex K)
def obsFG (n : Nat) (fa : List Fa) (fn : List He5.DefA) (ex : PySem.W.Frag → Bool) (g : Addr → Option Obj) : AlE := obsF fa fn ex (frG g (He5.asA g n))
structure SaysF (fa : List Fa) (fn : List He5.DefA) (ex : PySem.W.Frag → Bool) (K : PySem.W.Frag) : Prop where
  d : He5.SaysA fa fn K
  more : ex K = true
def hookF (n : Nat) (fa : List Fa) (fn : List He5.DefA) (ex : PySem.W.Frag → Bool) : PySem.W.Hook where
  α := AlE
  obs := fun s => obsFG n fa fn ex s.heap.get?
  val := fun _ => (He5.valA fn, true)
  says := fun _ h => ∃ K : PySem.W.Frag, K.In h ∧ SaysF fa fn ex K
  of := fun _ _ e => ⟨_, frG_in, congrArg (fun z : AlE => z.1) e, congrArg (fun z : AlE => z.2) e⟩
  keeps := fun _ _ _ ⟨K, hK, c⟩ k => ⟨K, PySem.W.Frag.In.keeps hK k, c⟩
theorem obsFG_eq {n : Nat} {fa : List Fa} {fn : List He5.DefA} {ex : PySem.W.Frag → Bool} {g : Addr → Option Obj} {s : Shared}
    (h : ∀ a, g a = s.heap.get? a) : obsFG n fa fn ex g = (hookF n fa fn ex).obs s := by
  have e : g = s.heap.get? := funext h
  rw [e] <;> rfl
end HeX

set_option maxHeartbeats 4000000
namespace Bx
/-! ## lengths in bits -/
def blen (n : Nat) : Nat := if n = 0 then 0 else n.log2 + 1
theorem blen_zero : blen 0 = 0 := rfl
theorem blen_pos {n : Nat} (h : n ≠ 0) : blen n = n.log2 + 1 := by
  unfold blen
  rw [if_neg h]
theorem blen_key (n m : Nat) : n < 2 ^ m ↔ blen n ≤ m := by
  unfold blen
  by_cases h : n = 0
  · subst h
    rw [if_pos rfl]
    exact ⟨fun _ => Nat.zero_le _, fun _ => Nat.two_pow_pos m⟩
  · rw [if_neg h, ← Nat.log2_lt h]
    omega
theorem lt_blen (n : Nat) : n < 2 ^ blen n := (blen_key n _).mpr (Nat.le_refl _)
theorem testBit_blen {n k : Nat} (h : n.testBit k = true) : k < blen n := by
  have hn : n ≠ 0 := by
    intro e
    rw [e, Nat.zero_testBit] at h
    cases h
  rw [blen_pos hn]
  exact testBit_log2 h
theorem testBit_top {n : Nat} (h : n ≠ 0) : n.testBit n.log2 = true := Nat.testBit_log2 h
theorem blen_shr (n k : Nat) : blen (n >>> k) = blen n - k := by
  by_cases h : n >>> k = 0
  · rw [h]
    have h2 : n < 2 ^ k := by
      rw [Nat.shiftRight_eq_div_pow] at h
      exact (Nat.div_eq_zero_iff_lt (Nat.two_pow_pos k)).mp h
    have := (blen_key n k).mp h2
    rw [blen_zero]
    omega
  · have hn : n ≠ 0 := by
      intro e
      rw [e, Nat.zero_shiftRight] at h
      exact h rfl
    rw [blen_pos h, blen_pos hn, log2_shr n k (Nat.pos_of_ne_zero h)]
    omega
theorem blen_xor {a b m : Nat} (ha : blen a ≤ m) (hb : blen b ≤ m) : blen (a ^^^ b) ≤ m := by
  rw [← blen_key] at *
  exact Nat.xor_lt_two_pow ha hb
theorem blen_shl {n k m : Nat} (h : blen n + k ≤ m) : blen (n <<< k) ≤ m := by
  rw [← blen_key, Nat.shiftLeft_eq]
  have h1 := lt_blen n
  calc n * 2 ^ k < 2 ^ blen n * 2 ^ k := (Nat.mul_lt_mul_right (Nat.two_pow_pos k)).mpr h1
    _ = 2 ^ (blen n + k) := by rw [Nat.pow_add]
    _ ≤ 2 ^ m := Nat.pow_le_pow_right (by decide) h
/-! ## rows: the bits of a number, the lowest first, none above the leading one -/
def rowOf (n : Nat) : List Nat := (List.range (blen n)).map fun k => (n.testBit k).toNat
theorem rowOf_length (n : Nat) : (rowOf n).length = blen n := by simp [rowOf]
theorem rowOf_bit {n : Nat} : ∀ b ∈ rowOf n, b < 2 := by
  intro b hb
  obtain ⟨k, _, rfl⟩ := List.mem_map.mp hb
  cases n.testBit k <;> decide
theorem rowOf_at {n k : Nat} (h : k < blen n) : (rowOf n)[k]? = some (n.testBit k).toNat := by
  unfold rowOf
  rw [List.getElem?_map, List.getElem?_range h]
  rfl
theorem numB_rowOf (n : Nat) : numB (rowOf n) = n := by
  refine Nat.eq_of_testBit_eq fun k => ?_
  rw [numB_testBit _ rowOf_bit]
  by_cases h : k < blen n
  · rw [rowOf_at h]
    cases n.testBit k <;> rfl
  · have e : (rowOf n)[k]? = none := List.getElem?_eq_none (by rw [rowOf_length]; omega)
    rw [e]
    cases e2 : n.testBit k with
    | false => rfl
    | true => exact absurd (testBit_blen e2) h
theorem rowOf_zero : rowOf 0 = [] := rfl
theorem rowOf_nil {n : Nat} : rowOf n = [] ↔ n = 0 := by
  constructor
  · intro h
    have := congrArg List.length h
    rw [rowOf_length] at this
    by_cases e : n = 0
    · exact e
    · rw [blen_pos e] at this
      cases this
  · intro h
    rw [h]
    rfl
theorem bits_ext {fs gs : List Nat} (hl : fs.length = gs.length) (hf : ∀ b ∈ fs, b < 2) (hg : ∀ b ∈ gs, b < 2) (h : numB fs = numB gs) : fs = gs := by
  refine List.ext_getElem hl fun k h1 h2 => ?_
  have e1 := numB_testBit fs hf k
  have e2 := numB_testBit gs hg k
  rw [h, e2] at e1
  have b1 := hf _ (List.getElem_mem h1)
  have b2 := hg _ (List.getElem_mem h2)
  rw [List.getElem?_eq_getElem h1, List.getElem?_eq_getElem h2] at e1
  have : (gs[k] = 1) = (fs[k] = 1) := by simpa using e1
  by_cases c : gs[k] = 1
  · rw [c, this.mp c]
  · have d : ¬ fs[k] = 1 := fun z => c (this.mpr z)
    omega
/-- a list of bits whose last one is 1, if there is one, is a row -/
theorem row_of_bare {fs : List Nat} (hf : ∀ b ∈ fs, b < 2) (hl : fs = [] ∨ fs.getLast? = some 1) : fs = rowOf (numB fs) := by
  refine bits_ext ?_ hf rowOf_bit (numB_rowOf _).symm
  rw [rowOf_length]
  rcases hl with rfl | hl
  · rfl
  · have hne : fs ≠ [] := fun e => by
      rw [e] at hl
      cases hl
    have hpos : 0 < fs.length := List.length_pos_iff.mpr hne
    rw [List.getLast?_eq_getElem?] at hl
    have tb : (numB fs).testBit (fs.length - 1) = true := by
      rw [numB_testBit fs hf, hl]
      rfl
    have h1 := testBit_blen tb
    have h2 := (blen_key _ _).mp (numB_lt fs hf)
    omega
theorem numB_append (fs gs : List Nat) : numB (fs ++ gs) = numB fs + 2 ^ fs.length * numB gs := by
  induction fs with
  | nil => simp [numB]
  | cons b r ih =>
    show b + 2 * numB (r ++ gs) = b + 2 * numB r + 2 ^ (r.length + 1) * numB gs
    rw [ih, Nat.pow_succ, Nat.mul_add]
    have : 2 * (2 ^ r.length * numB gs) = 2 ^ r.length * 2 * numB gs := by
      rw [← Nat.mul_assoc, Nat.mul_comm 2 (2 ^ r.length)]
    omega
theorem numB_zeros (n : Nat) : numB (List.replicate n 0) = 0 := by
  induction n with
  | zero => rfl
  | succ n ih =>
    show 0 + 2 * numB (List.replicate n 0) = 0
    rw [ih]
theorem numB_set {fs : List Nat} (hf : ∀ b ∈ fs, b < 2) {k b : Nat} (hk : k < fs.length) (hb : b < 2) (j : Nat) :
    (numB (fs.set k b)).testBit j = if k = j then decide (b = 1) else (numB fs).testBit j := by
  have hg : ∀ c ∈ fs.set k b, c < 2 := fun c hc => by
    rcases List.mem_or_eq_of_mem_set hc with z | z
    · exact hf c z
    · rw [z]
      exact hb
  rw [numB_testBit _ hg, numB_testBit _ hf, List.getElem?_set]
  by_cases e : k = j
  · subst e
    rw [if_pos rfl, if_pos rfl, if_pos hk]
    simp
  · rw [if_neg e, if_neg e]
/-! ## sums of many words -/
def xs (f : Nat → Nat) : Nat → Nat
  | 0 => 0
  | m + 1 => xs f m ^^^ f m
def bx (f : Nat → Bool) : Nat → Bool
  | 0 => false
  | m + 1 => xor (bx f m) (f m)
theorem xs_testBit (f : Nat → Nat) (m n : Nat) : (xs f m).testBit n = bx (fun k => (f k).testBit n) m := by
  induction m with
  | zero => simp [xs, bx]
  | succ m ih =>
    show (xs f m ^^^ f m).testBit n = _
    rw [Nat.testBit_xor, ih]
    rfl
theorem xs_front (f : Nat → Nat) (m : Nat) : xs f (m + 1) = f 0 ^^^ xs (fun k => f (k + 1)) m := by
  induction m with
  | zero => simp [xs]
  | succ m ih =>
    show xs f (m + 1) ^^^ f (m + 1) = f 0 ^^^ (xs (fun k => f (k + 1)) m ^^^ f (m + 1))
    rw [ih, Nat.xor_assoc]
theorem xs_congr {f g : Nat → Nat} {m : Nat} (h : ∀ k, k < m → f k = g k) : xs f m = xs g m := by
  induction m with
  | zero => rfl
  | succ m ih =>
    show xs f m ^^^ f m = xs g m ^^^ g m
    rw [ih fun k hk => h k (by omega), h m (by omega)]
theorem xs_more {f : Nat → Nat} {m : Nat} (h : ∀ k, m ≤ k → f k = 0) : ∀ d, xs f (m + d) = xs f m
  | 0 => rfl
  | d + 1 => by
    show xs f (m + d) ^^^ f (m + d) = xs f m
    rw [xs_more h d, h (m + d) (by omega), Nat.xor_zero]
theorem xs_eq {f : Nat → Nat} {a b : Nat} (ha : ∀ k, a ≤ k → f k = 0) (hb : ∀ k, b ≤ k → f k = 0) : xs f a = xs f b := by
  rcases Nat.le_total a b with h | h
  · obtain ⟨c, rfl⟩ := Nat.exists_eq_add_of_le h
    exact (xs_more ha c).symm
  · obtain ⟨c, rfl⟩ := Nat.exists_eq_add_of_le h
    exact xs_more hb c
theorem bx_congr {f g : Nat → Bool} {m : Nat} (h : ∀ k, k < m → f k = g k) : bx f m = bx g m := by
  induction m with
  | zero => rfl
  | succ m ih =>
    show xor (bx f m) (f m) = xor (bx g m) (g m)
    rw [ih fun k hk => h k (by omega), h m (by omega)]
theorem bx_more {f : Nat → Bool} {m : Nat} (h : ∀ k, m ≤ k → f k = false) : ∀ d, bx f (m + d) = bx f m
  | 0 => rfl
  | d + 1 => by
    show xor (bx f (m + d)) (f (m + d)) = bx f m
    rw [bx_more h d, h (m + d) (by omega), Bool.xor_false]
theorem bx_eq {f : Nat → Bool} {a b : Nat} (ha : ∀ k, a ≤ k → f k = false) (hb : ∀ k, b ≤ k → f k = false) : bx f a = bx f b := by
  rcases Nat.le_total a b with h | h
  · obtain ⟨c, rfl⟩ := Nat.exists_eq_add_of_le h
    exact (bx_more ha c).symm
  · obtain ⟨c, rfl⟩ := Nat.exists_eq_add_of_le h
    exact bx_more hb c
theorem bx_front (f : Nat → Bool) (m : Nat) : bx f (m + 1) = xor (f 0) (bx (fun k => f (k + 1)) m) := by
  induction m with
  | zero => simp [bx]
  | succ m ih =>
    show xor (bx f (m + 1)) (f (m + 1)) = xor (f 0) (xor (bx (fun k => f (k + 1)) m) (f (m + 1)))
    rw [ih, Bool.xor_assoc]
theorem bx_rev (f : Nat → Bool) (n : Nat) : bx (fun k => f (n - k)) (n + 1) = bx f (n + 1) := by
  induction n generalizing f with
  | zero => rfl
  | succ n ih =>
    rw [bx_front]
    have e : (fun k => f (n + 1 - (k + 1))) = fun k => f (n - k) := by
      funext k
      rw [Nat.add_sub_add_right]
    rw [e, ih f]
    show xor (f (n + 1 - 0)) (bx f (n + 1)) = xor (bx f (n + 1)) (f (n + 1))
    rw [Nat.sub_zero, Bool.xor_comm]
/-! ## products of polynomials -/
def pmul (a b : Nat) : Nat := xs (fun k => if b.testBit k then a <<< k else 0) (blen b)
theorem pmul_of {a b m : Nat} (h : blen b ≤ m) : xs (fun k => if b.testBit k then a <<< k else 0) m = pmul a b := by
  have z : ∀ j, blen b ≤ j → (if b.testBit j then a <<< j else 0) = 0 := fun j hj => by
    cases e : b.testBit j with
    | false => rfl
    | true => exact absurd (testBit_blen e) (by omega)
  exact xs_eq (fun k hk => z k (by omega)) z
theorem pmul_testBit (a b n : Nat) : (pmul a b).testBit n = bx (fun k => b.testBit k && a.testBit (n - k)) (n + 1) := by
  have e1 : (pmul a b).testBit n = bx (fun k => decide (k ≤ n) && (b.testBit k && a.testBit (n - k))) (blen b) := by
    unfold pmul
    rw [xs_testBit]
    refine bx_congr fun k _ => ?_
    show ((if b.testBit k then a <<< k else 0) : Nat).testBit n = _
    cases b.testBit k with
    | false => simp
    | true =>
      rw [if_pos rfl, Nat.testBit_shiftLeft]
      simp
  rw [e1]
  have e2 : bx (fun k => b.testBit k && a.testBit (n - k)) (n + 1) = bx (fun k => decide (k ≤ n) && (b.testBit k && a.testBit (n - k))) (n + 1) := by
    refine bx_congr fun k hk => ?_
    rw [decide_eq_true (show k ≤ n by omega), Bool.true_and]
  rw [e2]
  refine bx_eq (fun k hk => ?_) (fun k hk => ?_)
  · cases e : b.testBit k with
    | false => simp
    | true => exact absurd (testBit_blen e) (by omega)
  · rw [decide_eq_false (show ¬ k ≤ n by omega), Bool.false_and]
theorem pmul_comm (a b : Nat) : pmul a b = pmul b a := by
  refine Nat.eq_of_testBit_eq fun n => ?_
  rw [pmul_testBit, pmul_testBit]
  have e := bx_rev (fun k => b.testBit k && a.testBit (n - k)) n
  rw [← e]
  refine bx_congr fun k hk => ?_
  show (b.testBit (n - k) && a.testBit (n - (n - k))) = (a.testBit k && b.testBit (n - k))
  rw [show n - (n - k) = k by omega, Bool.and_comm]
theorem pmul_zero (a : Nat) : pmul a 0 = 0 := rfl
theorem pmul_blen {a b m : Nat} (h : blen a + blen b ≤ m) : blen (pmul a b) ≤ m := by
  have : ∀ c, c ≤ blen b → blen (xs (fun k => if b.testBit k then a <<< k else 0) c) ≤ m := by
    intro c
    induction c with
    | zero => intro _; exact Nat.zero_le _
    | succ c ih =>
      intro hc
      refine blen_xor (ih (by omega)) ?_
      show blen (if b.testBit c then a <<< c else 0) ≤ m
      split
      · exact blen_shl (by omega)
      · exact Nat.zero_le _
  exact this _ (Nat.le_refl _)
/-- what product_of's loop still has to do -/
theorem pmul_turn (found one other : Nat) (h : other ≠ 0) :
    found ^^^ pmul one other = (if other % 2 = 1 then found ^^^ one else found) ^^^ pmul (one <<< 1) (other >>> 1) := by
  have e : pmul one other = (if other.testBit 0 then one <<< 0 else 0) ^^^ xs (fun k => if other.testBit (k + 1) then one <<< (k + 1) else 0) (blen other - 1) := by
    have hb : blen other = (blen other - 1) + 1 := by
      have := blen_pos h
      omega
    unfold pmul
    rw [hb, xs_front]
    rfl
  have e2 : xs (fun k => if other.testBit (k + 1) then one <<< (k + 1) else 0) (blen other - 1) = pmul (one <<< 1) (other >>> 1) := by
    unfold pmul
    rw [blen_shr]
    refine xs_congr fun k _ => ?_
    rw [Nat.testBit_shiftRight, Nat.add_comm 1 k, ← Nat.shiftLeft_add, Nat.add_comm 1 k]
  rw [e, e2, Nat.testBit_zero]
  by_cases c : other % 2 = 1
  · rw [if_pos c, if_pos (decide_eq_true c), Nat.shiftLeft_zero, Nat.xor_assoc]
  · rw [if_neg c, if_neg (by simpa using c), Nat.zero_xor]
/-! ## division -/
def divStep (b size : Nat) (p : Nat × Nat) (gap : Nat) : Nat × Nat := if p.2.testBit (gap + size) then (p.1 ||| 1 <<< gap, p.2 ^^^ b <<< gap) else p
def divN (b size : Nat) : Nat → Nat × Nat → Nat × Nat
  | 0, p => p
  | n + 1, p => divN b size n (divStep b size p n)
/-- quotient and remainder -/
def pdiv (a b : Nat) : Nat × Nat := divN b b.log2 (blen a - b.log2) (0, a)
theorem lt_of_bits {r m : Nat} (h : ∀ j, m ≤ j → r.testBit j = false) : r < 2 ^ m := Nat.lt_pow_two_of_testBit r h
theorem bit_above {r m j : Nat} (h : r < 2 ^ m) (hj : m ≤ j) : r.testBit j = false := Nat.testBit_lt_two_pow (Nat.lt_of_lt_of_le h (Nat.pow_le_pow_right (by decide) hj))
theorem divStep_lt {b : Nat} (hb : b ≠ 0) {p : Nat × Nat} {n : Nat} (h : p.2 < 2 ^ (n + 1 + b.log2)) : (divStep b b.log2 p n).2 < 2 ^ (n + b.log2) := by
  unfold divStep
  split
  · rename_i c
    refine lt_of_bits fun j hj => ?_
    show (p.2 ^^^ b <<< n).testBit j = false
    rw [Nat.testBit_xor, Nat.testBit_shiftLeft]
    by_cases e : j = n + b.log2
    · subst e
      rw [c, decide_eq_true (show n + b.log2 ≥ n by omega), show n + b.log2 - n = b.log2 by omega, testBit_top hb]
      rfl
    · rw [bit_above h (by omega), bit_above (lt_blen b) (show blen b ≤ j - n by rw [blen_pos hb]; omega)]
      simp
  · rename_i c
    refine lt_of_bits fun j hj => ?_
    by_cases e : j = n + b.log2
    · subst e
      simpa using c
    · exact bit_above h (by omega)
theorem divN_lt {b : Nat} (hb : b ≠ 0) : ∀ (n : Nat) (p : Nat × Nat), p.2 < 2 ^ (n + b.log2) → (divN b b.log2 n p).2 < 2 ^ b.log2
  | 0, p, h => by
    rw [Nat.zero_add] at h
    exact h
  | n + 1, p, h => divN_lt hb n _ (divStep_lt hb h)
theorem pdiv_rem_lt {a b : Nat} (hb : b ≠ 0) : blen (pdiv a b).2 < blen b := by
  have h : (pdiv a b).2 < 2 ^ b.log2 := by
    refine divN_lt hb _ _ ?_
    show a < 2 ^ (blen a - b.log2 + b.log2)
    rw [blen_key]
    omega
  have := (blen_key _ _).mp h
  rw [blen_pos hb]
  omega
theorem divStep_blen {b size gap m : Nat} {p : Nat × Nat} (h1 : blen p.2 ≤ m) (h2 : blen b + gap ≤ m) : blen (divStep b size p gap).2 ≤ m := by
  unfold divStep
  split
  · exact blen_xor h1 (blen_shl h2)
  · exact h1
theorem blen_or {a b m : Nat} (ha : blen a ≤ m) (hb : blen b ≤ m) : blen (a ||| b) ≤ m := by
  rw [← blen_key] at *
  exact Nat.or_lt_two_pow ha hb
theorem divStep_q {b size gap m : Nat} {p : Nat × Nat} (h1 : blen p.1 ≤ m) (h2 : gap < m) : blen (divStep b size p gap).1 ≤ m := by
  unfold divStep
  split
  · refine blen_or h1 (blen_shl ?_)
    show blen 1 + gap ≤ m
    have : blen 1 = 1 := by decide
    omega
  · exact h1
theorem divN_blen {b size m : Nat} : ∀ (n : Nat) (p : Nat × Nat), blen p.1 ≤ m → n ≤ m → blen (divN b size n p).1 ≤ m
  | 0, p, h, _ => h
  | n + 1, p, h, hn => divN_blen n _ (divStep_q h (by omega)) (by omega)
theorem pdiv_q_blen (a b : Nat) : blen (pdiv a b).1 ≤ blen a := divN_blen _ _ (Nat.zero_le _) (by omega)
/-! ## the greatest common divisor -/
def pgcdF : Nat → Nat → Nat → Nat
  | 0, a, _ => a
  | n + 1, a, b => if b = 0 then a else pgcdF n b (pdiv a b).2
theorem pgcdF_more : ∀ (n m a b : Nat), blen b < n → blen b < m → pgcdF n a b = pgcdF m a b
  | n + 1, m + 1, a, b, h1, h2 => by
    unfold pgcdF
    by_cases e : b = 0
    · rw [if_pos e, if_pos e]
    · rw [if_neg e, if_neg e]
      have := pdiv_rem_lt (a := a) e
      exact pgcdF_more n m b _ (by omega) (by omega)
def pgcd (a b : Nat) : Nat := pgcdF (blen b + 1) a b
theorem pgcd_zero (a : Nat) : pgcd a 0 = a := by
  unfold pgcd pgcdF
  rw [if_pos rfl]
theorem pgcd_turn {a b : Nat} (h : b ≠ 0) : pgcd a b = pgcd b (pdiv a b).2 := by
  have := pdiv_rem_lt (a := a) h
  unfold pgcd
  conv => lhs; unfold pgcdF
  rw [if_neg h]
  exact pgcdF_more _ _ _ _ (by omega) (by omega)
/-! ## powers -/
def powStep (m f b e : Nat) : Nat := if e % 2 = 1 then (pdiv (pmul f b) m).2 else f
def powN (m : Nat) : Nat → Nat → Nat → Nat → Nat
  | 0, f, _, _ => f
  | n + 1, f, b, e => if e = 0 then f else powN m n (powStep m f b e) (pdiv (pmul b b) m).2 (e / 2)
theorem powN_more (m : Nat) : ∀ (n k f b e : Nat), blen e ≤ n → blen e ≤ k → powN m n f b e = powN m k f b e
  | 0, k, f, b, e, h1, h2 => by
    have e0 : e = 0 := by
      by_cases z : e = 0
      · exact z
      · rw [blen_pos z] at h1
        omega
    subst e0
    cases k <;> simp [powN]
  | n + 1, 0, f, b, e, h1, h2 => by
    have e0 : e = 0 := by
      by_cases z : e = 0
      · exact z
      · rw [blen_pos z] at h2
        omega
    subst e0
    simp [powN]
  | n + 1, k + 1, f, b, e, h1, h2 => by
    unfold powN
    by_cases z : e = 0
    · rw [if_pos z, if_pos z]
    · rw [if_neg z, if_neg z]
      have : blen (e / 2) = blen e - 1 := by
        rw [← blen_shr e 1]
        rfl
      exact powN_more m n k _ _ _ (by omega) (by omega)
def ppow (m f b e : Nat) : Nat := powN m (blen e) f b e
theorem ppow_zero (m f b : Nat) : ppow m f b 0 = f := rfl
theorem ppow_turn {m f b e : Nat} (h : e ≠ 0) : ppow m f b e = ppow m (powStep m f b e) (pdiv (pmul b b) m).2 (e / 2) := by
  have hb : blen e = (blen e - 1) + 1 := by
    have := blen_pos h
    omega
  have : blen (e / 2) = blen e - 1 := by
    rw [← blen_shr e 1]
    rfl
  unfold ppow
  rw [hb]
  conv => lhs; unfold powN
  rw [if_neg h, this]
end Bx

set_option maxHeartbeats 4000000
namespace Bx
open PySem PySem.Spec PyProof.Rows L2
/-! ## lists of numbers -/
abbrev nats (ns : List Nat) : List V := ns.map fun n : Nat => V.int n
theorem nats_at {ks : List Nat} {i : Nat} {y : V} (h : (nats ks)[i]? = some y) : ∃ k : Nat, ks[i]? = some k ∧ y = .int k := by
  rw [List.getElem?_map] at h
  cases e : ks[i]? with
  | none =>
    rw [e] at h
    cases h
  | some k =>
    rw [e] at h
    exact ⟨k, rfl, (Option.some.inj h).symm⟩
theorem nats_get {ks : List Nat} {i k : Nat} (h : ks[i]? = some k) : (nats ks)[i]? = some (.int k) := by
  rw [List.getElem?_map, h]
  rfl
theorem bits_set {fs : List Nat} {b : Nat} {j : Nat} (h : ∀ b ∈ fs, b < 2) (hb : b < 2) : ∀ c ∈ fs.set j b, c < 2 := fun c hc => by
  rcases List.mem_or_eq_of_mem_set hc with z | z
  · exact h c z
  · rw [z]
    exact hb
theorem nats_set (fs : List Nat) (j b : Nat) : (nats fs).set j (.int b) = nats (fs.set j b) := by
  simp [nats, List.map_set]
theorem ixN_nat {n j : Nat} (h : j < n) : ixN n (j : Int) = some j := by
  unfold ixN
  rw [if_pos (by omega), if_pos (by omega)]
  simp
theorem seqIndex_nat {n d : Nat} (h : d < n) : seqIndex? (d : Int) n = some d := (ixN_seq (ixN_nat h)).1
theorem rep_nats (n b : Nat) : (List.replicate n ([.int (b : Int)] : List V)).flatten = nats (List.replicate n b) := by
  induction n with
  | zero => rfl
  | succ n ih =>
    rw [List.replicate_succ, List.flatten_cons, ih]
    rfl
theorem nats_erase (ls : List Nat) (d : Nat) : (nats ls).eraseIdx d = nats (ls.eraseIdx d) := by
  induction ls generalizing d with
  | nil => rfl
  | cons y r ih =>
    cases d with
    | zero => rfl
    | succ d => exact congrArg (V.int (y : Int) :: ·) (ih d)
theorem nats_ints (fs : List Nat) : nats fs = (fs.map fun n : Nat => (n : Int)).map V.int := by
  rw [List.map_map]
  rfl
theorem sum_cast (fs : List Nat) : (fs.map fun n : Nat => (n : Int)).sum = (fs.sum : Nat) := by
  induction fs with
  | nil => rfl
  | cons x r ih =>
    rw [List.map_cons, List.sum_cons, List.sum_cons, ih]
    omega
theorem ok_nats {ks : List Nat} (h : ∀ k ∈ ks, k < 2 ^ 200) : ∀ v ∈ nats ks, okV v := by
  intro v hv
  obtain ⟨k, hk, rfl⟩ := List.mem_map.mp hv
  exact okV_nat (h k hk)
theorem lt200' {n : Nat} (h : n < 100000) : n < 2 ^ 200 := Nat.lt_of_lt_of_le h (Nat.le_trans (show 100000 ≤ 2 ^ 80 by decide) (Nat.pow_le_pow_right (by decide) (by decide)))
/-- a weaker reading -/
theorem pe_imp {X : Cx} {e : Expr} {t t' : TE} (h : PE X e t) (i : ∀ σ H Q, t' σ H Q → t σ H Q) : PE X e t' := ⟨fun pins s σ H Q I q => h.run pins s σ H Q I (i σ H Q q)⟩
/-! ## the pot from which a law draws -/
def PotAt (H : Hp) (p : Addr) : Prop := ∃ a b : Nat, H p = some (.lst [.int a, .int b]) ∧ b < 2147483647
theorem no_pylong {i j : Int} (h0 : 0 < j) (h : j < 2 ^ 62) : Builtin.divisionGoesByPylong i j = false := by
  have hj : ¬ j = 0 := by omega
  have hn : j.natAbs.log2 < 62 := by
    refine (Nat.log2_lt (by omega)).mpr ?_
    omega
  have e : (j == 0) = false := by simpa using hj
  unfold Builtin.divisionGoesByPylong
  simp only [e]
  have : ¬ (j.natAbs.log2 / 30 + 1 > 300) := by omega
  simp [this]
theorem pot_new {H : Hp} {p : Addr} {x y : Int} (hx : 0 ≤ x) (hy : 0 ≤ y) (hy2 : y < 2147483647) : PotAt (upd H p (.lst [.int x, .int y])) p := by
  refine ⟨x.toNat, y.toNat, ?_, by omega⟩
  rw [upd_same, Int.toNat_of_nonneg hx, Int.toNat_of_nonneg hy]
theorem pot_same {H H' : Hp} {p : Addr} (h : PotAt H p) (s : Same H H') : PotAt H' p := by
  obtain ⟨a, b, e, l⟩ := h
  exact ⟨a, b, s _ _ e, l⟩
theorem pot_ne {H : Hp} {p q : Addr} (h : PotAt H p) (n : H q = none) : p ≠ q := by
  obtain ⟨a, b, e, l⟩ := h
  exact ne_of_none e n
theorem pot_put {H : Hp} {p q : Addr} {o : HO} (h : PotAt H p) (n : q ≠ p) : PotAt (upd H q o) p := by
  obtain ⟨a, b, e, l⟩ := h
  exact ⟨a, b, by rw [upd_ne (Ne.symm n)]; exact e, l⟩
theorem keep_free {p D : Addr} {H H' : Hp} (k : Keep p H H') (h : PotAt H' p) (n : H' D = none) : H D = none := by
  cases e : H D with
  | none => rfl
  | some o =>
    rw [k D o e (Ne.symm (pot_ne h n))] at n
    cases n
theorem keep_put {p D : Addr} {H H' : Hp} {o : HO} (k : Keep p H H') (n : H D = none) : Keep p H (upd H' D o) := fun b x e nb => by
  rw [upd_ne (ne_of_none e n)]
  exact k b x e nb
theorem keep_new {p D : Addr} {H H' : Hp} {o : HO} (k : Keep p H H') (n : H' D = none) : Keep p H (upd H' D o) := k.trans (same_keep (same_upd n))
theorem keep_same {p : Addr} {H H1 H2 : Hp} (k : Keep p H H1) (s : Same H1 H2) : Keep p H H2 := k.trans (same_keep s)
def sp_pot (K : PySem.W.Frag) : Sp := fun vs H Q _ => ∃ (a : Addr) (ns : List Int) (k : Nat), vs = [.ref a, .int k] ∧ SqL K H a (ns.map V.int) ∧ k ≤ 100 ∧
  ∀ p H', Same H H' → H p = none → PotAt H' p → Q (.ref p) H'
def sp_draw : Sp := fun vs H Q _ => ∃ (p : Addr) (m : Nat), vs = [.ref p, .int m] ∧ PotAt H p ∧ 0 < m ∧ m < 2 ^ 62 ∧
  ∀ (d : Nat) H', d < m → PotAt H' p → Keep p H H' → Q (.int d) H'
def sp_pick (K : PySem.W.Frag) : Sp := fun vs H Q _ => ∃ (p a : Addr) (xs : List V), vs = [.ref p, .ref a] ∧ PotAt H p ∧ SqL K H a xs ∧ a ≠ p ∧ 0 < xs.length ∧ xs.length < 1000 ∧
  ∀ x H', x ∈ xs → PotAt H' p → Keep p H H' → Q x H'
/-- the law's own end: nothing to be raised -/
def sp_law (K : PySem.W.Frag) : Sp := fun vs H Q _ => ∃ (a : Addr) (ns : List Int), vs = [.ref a] ∧ SqL K H a (ns.map V.int) ∧ ns.length ≤ 63 ∧ ∀ H', Q (.bl true) H'
/-- what _law_right promises -/
def sp_right : Sp := fun vs H Q _ => ∃ p : Addr, vs = [.ref p] ∧ PotAt H p ∧ ∀ H', PotAt H' p → Keep p H H' → Q (.bl true) H'
end Bx

set_option maxHeartbeats 4000000
namespace Bx
open PySem PySem.Spec PyProof.Rows L2
/-! ## texts that can be laid -/
theorem sOk_app {x y : Str} (h1 : PyData.strOk x = true) (h2 : PyData.strOk y = true) : PyData.strOk (x ++ y) = true := by
  show (x.cps ++ y.cps).all (· < 0x110000) = true
  rw [Array.all_append]
  have a : x.cps.all (· < 0x110000) = true := h1
  have b : y.cps.all (· < 0x110000) = true := h2
  rw [a, b]
  rfl
theorem sOk_of (s : String) : PyData.strOk (Str.ofString s) = true := by
  rw [Str.ofString_eq_toList]
  show ((s.toList.map Char.toNat).toArray).all (· < 0x110000) = true
  rw [List.all_toArray, List.all_eq_true]
  intro n hn
  obtain ⟨c, _, rfl⟩ := List.mem_map.mp hn
  refine decide_eq_true ?_
  have := c.valid
  show c.val.toNat < 1114112
  rcases this with h | ⟨_, h⟩
  · have : c.val.toNat < 0xd800 := h
    omega
  · exact h
theorem sOk_join (y : Str) (hy : PyData.strOk y = true) : ∀ {xs : List Str}, (∀ x ∈ xs, PyData.strOk x = true) → PyData.strOk (Str.join y xs) = true
  | [], _ => by
    show (#[] : Array Nat).all (· < 0x110000) = true
    simp
  | [x], h => h x (List.mem_singleton.mpr rfl)
  | x :: z :: r, h => by
    show PyData.strOk (x ++ y ++ Str.join y (z :: r)) = true
    exact sOk_app (sOk_app (h x (List.mem_cons_self ..)) hy) (sOk_join y hy fun v hv => h v (List.mem_cons_of_mem _ hv))
theorem sOk_joinT (y : Str) (hy : PyData.strOk y = true) {xs : List Str} (h : ∀ x ∈ xs, PyData.strOk x = true) : PyData.strOk (Txt.join y xs) = true := by
  rw [TL.join_eq]
  exact sOk_join y hy h
/-! ## flat lists compared -/
def okD : V → Prop
  | .non => True
  | .bl _ => True
  | .int _ => True
  | .str x => PyData.strOk x = true
  | _ => False
section
variable {K : PySem.W.Frag} {H : Hp}
theorem dp_okD : ∀ {v : V}, okD v → Dp K H v (dOf v)
  | .non, _ => .non
  | .bl b, _ => .bl b
  | .int i, _ => .int i
  | .str x, _ => .str x
theorem dpAll_okD : ∀ {xs : List V}, (∀ v ∈ xs, okD v) → DpAll K H xs (xs.map dOf)
  | [], _ => .nil
  | x :: r, h => .cons (dp_okD (h x (List.mem_cons_self ..))) (dpAll_okD fun v hv => h v (List.mem_cons_of_mem _ hv))
end
theorem layD : ∀ {v : V}, okD v → (dOf v).canLay0 = true ∧ (dOf v).depth = 0
  | .non, _ => ⟨rfl, rfl⟩
  | .bl b, _ => ⟨rfl, rfl⟩
  | .int i, _ => ⟨rfl, rfl⟩
  | .str x, h => ⟨h, rfl⟩
theorem layAllD : ∀ {xs : List V}, (∀ v ∈ xs, okD v) → PyData.canLayAll0 (xs.map dOf) = true ∧ PyData.depthAll (xs.map dOf) = 0
  | [], _ => ⟨rfl, rfl⟩
  | x :: r, h => by
    obtain ⟨a, b⟩ := layD (h x (List.mem_cons_self ..))
    obtain ⟨c, d⟩ := layAllD fun v hv => h v (List.mem_cons_of_mem _ hv)
    refine ⟨?_, ?_⟩
    · show ((dOf x).canLay0 && PyData.canLayAll0 (r.map dOf)) = true
      rw [a, c]
      rfl
    · show max (dOf x).depth (PyData.depthAll (r.map dOf)) = 0
      rw [b, d]
      rfl
theorem shapedD {xs : List V} (h : ∀ v ∈ xs, okD v) : SeqAt.shaped (.list (xs.map dOf)) = true := by
  obtain ⟨a, b⟩ := layAllD h
  unfold SeqAt.shaped
  have c : (PyData.list (xs.map dOf)).canLay0 = true := a
  rw [c, Bool.true_and]
  refine decide_eq_true ?_
  show PyData.depthAll (xs.map dOf) + 1 ≤ 64
  omega
def eqL (xs ys : List V) : Bool := PyData.eqvAll (xs.map dOf) (ys.map dOf)
section
variable {X : Cx}
theorem op_eqL (hu : X.A.units + 64 < cLine) : OpR X (compareOp .Eq) (fun x y H Q => ∃ a b xs ys, x = .ref a ∧ y = .ref b ∧ SqL X.K H a xs ∧ SqL X.K H b ys ∧ (∀ v ∈ xs, okD v) ∧ (∀ v ∈ ys, okD v) ∧ Q (.bl (eqL xs ys)) H) := by
  intro pins s σ H x y v u Q I r1 r2 h
  obtain ⟨a, b, xs, ys, rfl, rfl, hA, hB, o1, o2, q⟩ := h
  exact op_eqD hu pins s σ H _ _ v u Q I r1 r2 ⟨.list (xs.map dOf), .list (ys.map dOf), .lst hA (dpAll_okD o1), .lst hB (dpAll_okD o2), shapedD o1, shapedD o2, q⟩
theorem op_neL (hu : X.A.units + 64 < cLine) : OpR X (compareOp .NotEq) (fun x y H Q => ∃ a b xs ys, x = .ref a ∧ y = .ref b ∧ SqL X.K H a xs ∧ SqL X.K H b ys ∧ (∀ v ∈ xs, okD v) ∧ (∀ v ∈ ys, okD v) ∧ Q (.bl (!eqL xs ys)) H) := by
  intro pins s σ H x y v u Q I r1 r2 h
  obtain ⟨a, b, xs, ys, rfl, rfl, hA, hB, o1, o2, q⟩ := h
  exact op_neD hu pins s σ H _ _ v u Q I r1 r2 ⟨.list (xs.map dOf), .list (ys.map dOf), .lst hA (dpAll_okD o1), .lst hB (dpAll_okD o2), shapedD o1, shapedD o2, q⟩
end
theorem eqL_nil (xs : List V) : eqL xs [] = xs.isEmpty := by cases xs <;> rfl
theorem eqv_self : ∀ {v : V}, okD v → PyData.eqv (dOf v) (dOf v) = true
  | .non, _ => rfl
  | .bl b, _ => by cases b <;> rfl
  | .int i, _ => by
    show (i == i) = true
    simp
  | .str x, h => by
    show (x == x) = true
    simp
theorem eqL_self : ∀ {xs : List V}, (∀ v ∈ xs, okD v) → eqL xs xs = true
  | [], _ => rfl
  | x :: r, h => by
    show (PyData.eqv (dOf x) (dOf x) && eqL r r) = true
    rw [eqv_self (h x (List.mem_cons_self ..)), eqL_self fun v hv => h v (List.mem_cons_of_mem _ hv)]
    rfl
theorem eqL_nats : ∀ (fs gs : List Nat), eqL (nats fs) (nats gs) = decide (fs = gs)
  | [], [] => rfl
  | [], g :: r => rfl
  | f :: r, [] => rfl
  | f :: r, g :: t => by
    show (((f : Int) == (g : Int)) && eqL (nats r) (nats t)) = _
    rw [eqL_nats r t]
    by_cases e : f = g
    · subst e
      simp
    · have : ((f : Int) == (g : Int)) = false := by
        rw [beq_eq_false_iff_ne]
        omega
      rw [this, Bool.false_and, decide_eq_false fun z => e (List.cons.inj z).1]
theorem okD_nats (ks : List Nat) : ∀ v ∈ nats ks, okD v := fun v hv => by
  obtain ⟨k, _, rfl⟩ := List.mem_map.mp hv
  trivial
end Bx

set_option maxHeartbeats 4000000
namespace K61
open PySem PySem.Spec PyProof.Rows L2 Bx
def top (i : Nat) : Stmt := PySem.Challenge.pw_bitlaid_k61_polynomials_by_lists.main.body.getD i (.Pass ⟨0, 0, 0, 0⟩)
structure Txt (K : PySem.W.Frag) (mg : Str → Option Value) : Prop where
  b_abs : mg "abs" = none
  b_all : mg "all" = none
  b_bool : mg "bool" = none
  b_classmethod : mg "classmethod" = none
  b_divmod : mg "divmod" = none
  b_enumerate : mg "enumerate" = none
  b_int : mg "int" = none
  b_isinstance : mg "isinstance" = none
  b_len : mg "len" = none
  b_list : mg "list" = none
  b_max : mg "max" = none
  b_min : mg "min" = none
  b_property : mg "property" = none
  b_range : mg "range" = none
  b_repr : mg "repr" = none
  b_reversed : mg "reversed" = none
  b_str : mg "str" = none
  b_zip : mg "zip" = none
  c_STRIDE : ∃ t, mg "STRIDE" = some (.int 16 t)
  d_wall : DefAt K mg "_wall" (top 0)
  d_is_natural : DefAt K mg "is_natural" (top 9)
  d_degree_of : DefAt K mg "degree_of" (top 10)
  d_product_of : DefAt K mg "product_of" (top 11)
  d_division_of : DefAt K mg "division_of" (top 12)
  d_quotient_of : DefAt K mg "quotient_of" (top 13)
  d_remainder_of : DefAt K mg "remainder_of" (top 14)
  d_divisor_of : DefAt K mg "divisor_of" (top 15)
  d_power_of : DefAt K mg "power_of" (top 16)
  d_term_text : DefAt K mg "term_text" (top 17)
  d_text_of : DefAt K mg "text_of" (top 18)
  d_word_in : DefAt K mg "word_in" (top 20)
  d_divisor_in : DefAt K mg "divisor_in" (top 21)
  d_law_pot : DefAt K mg "_law_pot" (top 23)
  d_law_draw : DefAt K mg "_law_draw" (top 24)
  d_law_pick : DefAt K mg "_law_pick" (top 25)
  d_law_bare : DefAt K mg "_law_bare" (top 26)
  d_law_list : DefAt K mg "_law_list" (top 27)
  d_law_number : DefAt K mg "_law_number" (top 28)
  d_law_sum : DefAt K mg "_law_sum" (top 29)
  d_law_product : DefAt K mg "_law_product" (top 30)
  d_law_divided : DefAt K mg "_law_divided" (top 31)
  d_law_common : DefAt K mg "_law_common" (top 32)
  d_law_power : DefAt K mg "_law_power" (top 33)
  d_law_line : DefAt K mg "_law_line" (top 34)
  d_law_is : DefAt K mg "_law_is" (top 35)
  d_law_pair_right : DefAt K mg "_law_pair_right" (top 36)
  d_law_powers_right : DefAt K mg "_law_powers_right" (top 37)
  d_law_great_right : DefAt K mg "_law_great_right" (top 38)
  d_law_right : DefAt K mg "_law_right" (top 39)
  d_law : DefAt K mg "law" (top 40)
  k_Polynomial : mg "Polynomial" = some (.ref (He.ga K "Polynomial"))
  o_Polynomial : Own K (He.ga K "Polynomial")
  ne_Polynomial : PySem.W.findIn K (.ref (He.ga K "Polynomial")) "__ne__" = some (some (.builtin "object.__ne__"))
  m_Polynomial_init : Meth K (He.ga K "Polynomial") "__init__" (He.ma K (He.ga K "Polynomial") "__init__")
  m_Polynomial_add : Meth K (He.ga K "Polynomial") "__add__" (He.ma K (He.ga K "Polynomial") "__add__")
  m_Polynomial_mul : Meth K (He.ga K "Polynomial") "__mul__" (He.ma K (He.ga K "Polynomial") "__mul__")
  m_Polynomial_floordiv : Meth K (He.ga K "Polynomial") "__floordiv__" (He.ma K (He.ga K "Polynomial") "__floordiv__")
  m_Polynomial_mod : Meth K (He.ga K "Polynomial") "__mod__" (He.ma K (He.ga K "Polynomial") "__mod__")
  m_Polynomial_gcd : Meth K (He.ga K "Polynomial") "gcd" (He.ma K (He.ga K "Polynomial") "gcd")
  m_Polynomial_power_mod : Meth K (He.ga K "Polynomial") "power_mod" (He.ma K (He.ga K "Polynomial") "power_mod")
  m_Polynomial_eq : Meth K (He.ga K "Polynomial") "__eq__" (He.ma K (He.ga K "Polynomial") "__eq__")
  m_Polynomial_str : Meth K (He.ga K "Polynomial") "__str__" (He.ma K (He.ga K "Polynomial") "__str__")
  m_Polynomial_repr : Meth K (He.ga K "Polynomial") "__repr__" (He.ma K (He.ga K "Polynomial") "__repr__")
  p_Polynomial_word : PropOf K (He.ga K "Polynomial") "word" (He.ma K (He.ga K "Polynomial") "word") (pgA K (He.ga K "Polynomial") "word")
  p_Polynomial_degree : PropOf K (He.ga K "Polynomial") "degree" (He.ma K (He.ga K "Polynomial") "degree") (pgA K (He.ga K "Polynomial") "degree")
  n_Polynomial_own_word : NoAttr K (He.ga K "Polynomial") "own_word"
  d_Polynomial_init : DefM K (He.ma K (He.ga K "Polynomial") "__init__") "__init__" "Polynomial.__init__" (inClass (top 19) 0) []
  d_Polynomial_word : DefM K (pgA K (He.ga K "Polynomial") "word") "word" "Polynomial.word" (inClass (top 19) 2) []
  d_Polynomial_degree : DefM K (pgA K (He.ga K "Polynomial") "degree") "degree" "Polynomial.degree" (inClass (top 19) 3) []
  d_Polynomial_add : DefM K (He.ma K (He.ga K "Polynomial") "__add__") "__add__" "Polynomial.__add__" (inClass (top 19) 4) []
  d_Polynomial_mul : DefM K (He.ma K (He.ga K "Polynomial") "__mul__") "__mul__" "Polynomial.__mul__" (inClass (top 19) 5) []
  d_Polynomial_floordiv : DefM K (He.ma K (He.ga K "Polynomial") "__floordiv__") "__floordiv__" "Polynomial.__floordiv__" (inClass (top 19) 6) []
  d_Polynomial_mod : DefM K (He.ma K (He.ga K "Polynomial") "__mod__") "__mod__" "Polynomial.__mod__" (inClass (top 19) 7) []
  d_Polynomial_gcd : DefM K (He.ma K (He.ga K "Polynomial") "gcd") "gcd" "Polynomial.gcd" (inClass (top 19) 8) []
  d_Polynomial_power_mod : DefM K (He.ma K (He.ga K "Polynomial") "power_mod") "power_mod" "Polynomial.power_mod" (inClass (top 19) 9) []
  d_Polynomial_eq : DefM K (He.ma K (He.ga K "Polynomial") "__eq__") "__eq__" "Polynomial.__eq__" (inClass (top 19) 10) []
  d_Polynomial_str : DefM K (He.ma K (He.ga K "Polynomial") "__str__") "__str__" "Polynomial.__str__" (inClass (top 19) 11) []
  d_Polynomial_repr : DefM K (He.ma K (He.ga K "Polynomial") "__repr__") "__repr__" "Polynomial.__repr__" (inClass (top 19) 12) []
theorem intBits_le (a : Nat) : Builtin.Int.intBits (a : Int) ≤ blen a + 1 := by
  unfold Builtin.Int.intBits blen
  simp only [Int.natAbs_natCast]
  by_cases h : a = 0
  · subst h
    decide
  · rw [if_neg h]
    split <;> omega
theorem op_bshlW {X : Cx} : OpR X (binaryOp .LShift) (rN (fun a k => blen a + k ≤ 100000) (· <<< ·)) := by
  intro pins s σ H x y v u Q I r1 r2 h
  obtain ⟨a, b, rfl, rfl, c, q⟩ := h
  have hb := intBits_le a
  refine op_shlW pins s σ H _ _ v u Q I r1 r2 ⟨_, _, rfl, rfl, ⟨Int.natCast_nonneg b, by omega⟩, ?_⟩
  show Q (.int ((a : Int) * 2 ^ (b : Int).toNat)) H
  rw [Int.toNat_natCast, shl_cast]
  exact q
section
variable {P : Program} {w : World} {K : PySem.W.Frag} {mg : Str → Option Value} {base : Heap}
/-! ### polynomials as numbers -/
def sp_is_natural : Sp := fun vs H Q _ => ∃ n : Nat, vs = [.int n] ∧ Q (.bl true) H
theorem sc_is_natural : FnScope ["value"] ["value"] (defScope (top 9)) := ⟨rfl, rfl, rfl, by decide +kernel, rfl, by decide +kernel, by decide +kernel⟩
theorem ok_is_natural (T : Txt K mg) : CallF P w K mg base CX0 1 "is_natural" ["value"] sp_is_natural := by
  refine callF_of T.d_is_natural sc_is_natural (fun _ _ _ _ _ _ us hl => match us, hl with | [_], _ => rfl) (fun vs H Q E h => ?_) (fun cdv A outer s H vs Q E hr h => ?_)
  · obtain ⟨n, rfl, _⟩ := h
    rfl
  · obtain ⟨n, rfl, q⟩ := h
    refine ⟨_, (pss_one (ps_ret (pe_and (pe_callB call_isi (by rfl) T.b_isinstance bb_isinstance (pa_cons (pv 0) (pa_cons (pe_bltn (v := .ty "int") (by rfl) T.b_int bt_int rfl) pa_nil))) (pe_and (pe_not (pe_callB call_isi (by rfl) T.b_isinstance bb_isinstance (pa_cons (pv 0) (pa_cons (pe_bltn (v := .ty "bool") (by rfl) T.b_bool bt_bool rfl) pa_nil)))) (pe_one (pe_cmpR op_ge (pv 0) pe_int (nomark _))))))), ?_⟩
    refine ⟨_, rfl, _, .ty "int", _, _, true, rfl, .ty _, .base (.int _), kit_ty (by decide +kernel), true, rfl, iteT ?_⟩
    refine ⟨_, rfl, _, .ty "bool", _, _, false, rfl, .ty _, .base (.int _), kit_ty (by decide +kernel), false, rfl, true, rfl, iteT ?_⟩
    refine ⟨_, rfl, _, _, rfl, rfl, ?_⟩
    show Q (.bl (decide ((0 : Int) ≤ (n : Int)))) H
    rw [decide_eq_true (by omega)]
    exact q
def sp_degree_of : Sp := fun vs H Q _ => ∃ n : Nat, vs = [.int n] ∧ Q (.int ((blen n : Int) - 1)) H
theorem sc_degree_of : FnScope ["word", "found"] ["word"] (defScope (top 10)) := ⟨rfl, rfl, rfl, by decide +kernel, rfl, by decide +kernel, by decide +kernel⟩
theorem shr_lt {m k : Nat} (h : m >>> k > 0) (hk : 0 < k) : m >>> k < m := by
  have hm : 0 < m := by
    rcases Nat.eq_zero_or_pos m with z | z
    · subst z
      rw [Nat.zero_shiftRight] at h
      omega
    · exact z
  rw [Nat.shiftRight_eq_div_pow]
  exact Nat.div_lt_self hm (Nat.one_lt_two_pow (by omega))
theorem ok_degree_of (T : Txt K mg) : CallF P w K mg base CX0 1 "degree_of" ["word"] sp_degree_of := by
  refine callF_of T.d_degree_of sc_degree_of (fun _ _ _ _ _ _ us hl => match us, hl with | [_], _ => rfl) (fun vs H Q E h => ?_) (fun cdv A outer s H vs Q E hr h => ?_)
  · obtain ⟨n, rfl, _⟩ := h
    rfl
  · obtain ⟨n, rfl, q⟩ := h
    refine ⟨_, (pss_cons (ps_set (i := 1) sc_degree_of.nd rfl (.inl rfl) (pe_un un_neg pe_int))
      (pss_cons (ps_while PassesOwn.never (pt_cmpR op_gt (pe_op op_bshr (pv 0) (pe_gInt (by rfl) T.c_STRIDE)) pe_int (nomark _))
          (pss_cons (ps_set (i := 0) sc_degree_of.nd rfl (.inl rfl) (pe_op op_bshr (pv 0) (pe_gInt (by rfl) T.c_STRIDE)))
          (pss_one (ps_set (i := 1) sc_degree_of.nd rfl (.inl rfl) (pe_op op_add (pv 1) (pe_gInt (by rfl) T.c_STRIDE))))))
      (pss_cons (ps_while PassesOwn.never (pt_cmpR op_gt (pv 0) pe_int (nomark _))
          (pss_cons (ps_set (i := 0) sc_degree_of.nd rfl (.inl rfl) (pe_op op_bshr (pv 0) pe_int))
          (pss_one (ps_set (i := 1) sc_degree_of.nd rfl (.inl rfl) (pe_op op_add (pv 1) pe_int)))))
      (pss_one (ps_ret (pv 1)))))), ?_⟩
    refine ⟨1, rfl, ?_⟩
    refine ⟨fun m σ H2 => ∃ (x : Nat) (f : Int), m = x ∧ σ = [some (.int x), some (.int f)] ∧ H2 = H ∧ f + (blen x : Int) = (blen n : Int) - 1, ⟨n, n, -1, rfl, rfl, rfl, by omega⟩, fun m σ H2 hW => ?_⟩
    obtain ⟨x, f, rfl, rfl, rfl, e⟩ := hW
    refine ⟨_, rfl, m, 16, rfl, rfl, _, _, rfl, rfl, _, rfl, ?_⟩
    by_cases c : m >>> 16 > 0
    · rw [decide_eq_true (show ((m >>> 16 : Nat) : Int) > 0 by omega)]
      refine iteT ⟨fun σ' H' => ∃ m' : Nat, m' < m ∧ ∃ (x : Nat) (f : Int), m' = x ∧ σ' = [some (.int x), some (.int f)] ∧ H' = H2 ∧ f + (blen x : Int) = (blen n : Int) - 1, fun _ _ z => z, ?_⟩
      refine ⟨_, rfl, m, 16, rfl, rfl, _, rfl, _, _, rfl, rfl, m >>> 16, shr_lt c (by decide), m >>> 16, _, rfl, rfl, rfl, ?_⟩
      have h1 := blen_shr m 16
      have h2 : 0 < blen (m >>> 16) := by
        rw [blen_pos (by omega)]
        omega
      omega
    · rw [decide_eq_false (show ¬ ((m >>> 16 : Nat) : Int) > 0 by omega)]
      refine iteF ?_
      refine ⟨fun m σ H3 => ∃ (x : Nat) (f : Int), m = x ∧ σ = [some (.int x), some (.int f)] ∧ H3 = H2 ∧ f + (blen x : Int) = (blen n : Int) - 1, ⟨m, m, f, rfl, rfl, rfl, e⟩, fun m σ H3 hW => ?_⟩
      obtain ⟨x, f, rfl, rfl, rfl, e⟩ := hW
      refine ⟨_, rfl, _, _, rfl, rfl, _, rfl, ?_⟩
      by_cases c2 : m > 0
      · rw [decide_eq_true (show (m : Int) > 0 by omega)]
        refine iteT ⟨fun σ' H' => ∃ m' : Nat, m' < m ∧ ∃ (x : Nat) (f : Int), m' = x ∧ σ' = [some (.int x), some (.int f)] ∧ H' = H3 ∧ f + (blen x : Int) = (blen n : Int) - 1, fun _ _ z => z, ?_⟩
        have h1 := blen_shr m 1
        have h2 : 0 < blen m := by
          rw [blen_pos (by omega)]
          omega
        have h3 : m >>> 1 < m := by
          rw [Nat.shiftRight_eq_div_pow]
          exact Nat.div_lt_self c2 (by decide)
        refine ⟨_, rfl, m, 1, rfl, rfl, _, rfl, _, _, rfl, rfl, m >>> 1, h3, m >>> 1, _, rfl, rfl, rfl, by omega⟩
      · rw [decide_eq_false (show ¬ (m : Int) > 0 by omega)]
        refine iteF ⟨_, rfl, ?_⟩
        have : m = 0 := by omega
        subst this
        have ef : f = (blen n : Int) - 1 := by
          rw [blen_zero] at e
          omega
        rw [ef]
        exact q
def sp_product_of : Sp := fun vs H Q _ => ∃ a b : Nat, vs = [.int a, .int b] ∧ blen a + blen b ≤ 50000 ∧ Q (.int (pmul a b : Nat)) H
theorem sc_product_of : FnScope ["one", "other", "found"] ["one", "other"] (defScope (top 11)) := ⟨rfl, rfl, rfl, by decide +kernel, rfl, by decide +kernel, by decide +kernel⟩
theorem ok_product_of (T : Txt K mg) : CallF P w K mg base CX0 1 "product_of" ["one", "other"] sp_product_of := by
  refine callF_of T.d_product_of sc_product_of (fun _ _ _ _ _ _ us hl => match us, hl with | [_, _], _ => rfl) (fun vs H Q E h => ?_) (fun cdv A outer s H vs Q E hr h => ?_)
  · obtain ⟨a, b, rfl, _⟩ := h
    rfl
  · obtain ⟨a, b, rfl, hab, q⟩ := h
    refine ⟨_, (pss_cons (ps_set (i := 2) sc_product_of.nd rfl (.inl rfl) pe_int)
      (pss_cons (ps_while PassesOwn.never (pt_cmpR op_gt (pv 1) pe_int (nomark _))
          (pss_cons (ps_if (pt_cmpR op_eq (pe_op op_band (pv 1) pe_int) pe_int (nomark _))
              (pss_one (ps_set (i := 2) sc_product_of.nd rfl (.inl rfl) (pe_op op_bxor (pv 2) (pv 0))))
              pss_nil)
          (pss_cons (ps_set (i := 0) sc_product_of.nd rfl (.inl rfl) (pe_op op_bshlW (pv 0) pe_int))
          (pss_one (ps_set (i := 1) sc_product_of.nd rfl (.inl rfl) (pe_op op_bshr (pv 1) pe_int))))))
      (pss_one (ps_ret (pv 2))))), ?_⟩
    refine ⟨fun m σ H2 => ∃ f o : Nat, σ = [some (.int o), some (.int m), some (.int f)] ∧ H2 = H ∧ blen o + blen m ≤ 50000 ∧ f ^^^ pmul o m = pmul a b, ⟨b, 0, a, rfl, rfl, hab, Nat.zero_xor _⟩, fun m σ H2 hW => ?_⟩
    obtain ⟨f, o, rfl, rfl, hb, e⟩ := hW
    refine ⟨_, rfl, _, _, rfl, rfl, _, rfl, ?_⟩
    by_cases c : m > 0
    · rw [decide_eq_true (show (m : Int) > 0 by omega)]
      have h2 : blen m = blen (m >>> 1) + 1 := by
        rw [blen_shr, blen_pos (by omega)]
        omega
      have h3 : m >>> 1 < m := by
        rw [Nat.shiftRight_eq_div_pow]
        exact Nat.div_lt_self c (by decide)
      have h4 : blen (o <<< 1) ≤ blen o + 1 := blen_shl (Nat.le_refl _)
      have et := pmul_turn f o m (by omega)
      refine iteT ⟨fun σ' H' => ∃ m' : Nat, m' < m ∧ ∃ f o : Nat, σ' = [some (.int o), some (.int m'), some (.int f)] ∧ H' = H2 ∧ blen o + blen m' ≤ 50000 ∧ f ^^^ pmul o m' = pmul a b, fun _ _ z => z, ?_⟩
      refine ⟨_, rfl, m, 1, rfl, rfl, rfl, _, rfl, ?_⟩
      have em : m &&& 1 = m % 2 := Nat.and_one_is_mod m
      show if decide (V.int ((m &&& 1 : Nat) : Int) = V.int 1) = true then _ else _
      rw [em]
      rcases Nat.mod_two_eq_zero_or_one m with z | z
      · rw [z] at et ⊢
        refine iteF ⟨_, rfl, o, 1, rfl, rfl, by omega, _, rfl, m, 1, rfl, rfl, m >>> 1, h3, f, o <<< 1, rfl, rfl, by omega, ?_⟩
        rw [if_neg (by decide)] at et
        rw [← et]
        exact e
      · rw [z] at et ⊢
        refine iteT ⟨_, rfl, _, rfl, f, o, rfl, rfl, _, rfl, o, 1, rfl, rfl, by omega, _, rfl, m, 1, rfl, rfl, m >>> 1, h3, f ^^^ o, o <<< 1, rfl, rfl, by omega, ?_⟩
        rw [if_pos rfl] at et
        rw [← et]
        exact e
    · rw [decide_eq_false (show ¬ (m : Int) > 0 by omega)]
      have : m = 0 := by omega
      subst this
      rw [pmul_zero, Nat.xor_zero] at e
      subst e
      exact iteF ⟨_, rfl, q⟩
def sp_division_of : Sp := fun vs H Q _ => ∃ a b : Nat, vs = [.int a, .int b] ∧ b ≠ 0 ∧ blen a + blen b ≤ 50000 ∧
  ∀ p H', Same H H' → H p = none → H' p = some (.tup [.int ((pdiv a b).1 : Nat), .int ((pdiv a b).2 : Nat)]) → Q (.ref p) H'
theorem sc_division_of : FnScope ["one", "other", "quotient", "size", "gap"] ["one", "other"] (defScope (top 12)) := ⟨rfl, rfl, rfl, by decide +kernel, rfl, by decide +kernel, by decide +kernel⟩
theorem ok_division_of (T : Txt K mg) (C_degree_of : CallF P w K mg base CX0 1 "degree_of" ["word"] sp_degree_of) : CallF P w K mg base CX0 2 "division_of" ["one", "other"] sp_division_of := by
  refine callF_of T.d_division_of sc_division_of (fun _ _ _ _ _ _ us hl => match us, hl with | [_, _], _ => rfl) (fun vs H Q E h => ?_) (fun cdv A outer s H vs Q E hr h => ?_)
  · obtain ⟨a, b, rfl, _⟩ := h
    rfl
  · obtain ⟨a, b, rfl, b0, hab, q⟩ := h
    refine ⟨_, (pss_cons (ps_par (i := 2) (j := 3) (by rfl) sc_division_of.nd rfl rfl (by decide) rfl rfl (pa_cons pe_int (pa_cons (pe_f C_degree_of (hr.mono (by decide)) (by rfl) pass0 (pa_cons (pv 1) pa_nil)) pa_nil)) (by rfl))
      (pss_cons (ps_for PassesOwn.never rfl (pi_range3 (by rfl) T.b_range (pa_cons (pe_op op_sub (pe_f C_degree_of (hr.mono (by decide)) (by rfl) pass0 (pa_cons (pv 0) pa_nil)) (pv 3)) (pa_cons (pe_un un_neg pe_int) (pa_cons (pe_un un_neg pe_int) pa_nil)))) (pg_name (i := 4) sc_division_of.nd rfl (.inl rfl))
          (pss_one (ps_if (pt_cmpR op_eq (pe_op op_band (pe_op op_bshr (pv 0) (pe_op op_add (pv 4) (pv 3))) pe_int) pe_int (nomark _))
            (pss_cons (ps_set (i := 2) sc_division_of.nd rfl (.inl rfl) (pe_op op_bor (pv 2) (pe_op op_bshlW pe_int (pv 4))))
            (pss_one (ps_set (i := 0) sc_division_of.nd rfl (.inl rfl) (pe_op op_bxor (pv 0) (pe_op op_bshlW (pv 1) (pv 4))))))
            pss_nil)))
      (pss_one (ps_ret (pe_tup (pa_cons (pv 2) (pa_cons (pv 0) pa_nil))))))), ?_⟩
    refine ⟨_, rfl, b, rfl, _, _, rfl, ?_⟩
    have hsz : (blen b : Int) - 1 = (b.log2 : Nat) := by
      rw [blen_pos b0]
      omega
    rw [hsz]
    refine ⟨_, rfl, a, rfl, _, rfl, _, _, rfl, rfl, 1, rfl, 1, rfl, _, -1, -1, _, rfl, RgC.neg (by show -(2 ^ 62) ≤ (blen a : Int) - 1 - (b.log2 : Int); omega) (by show (blen a : Int) - 1 - (b.log2 : Int) < 2 ^ 62; omega) (by decide) (by decide), ?_⟩
    have hn : ((blen a : Int) - 1 - (b.log2 : Int) - -1).toNat = blen a - b.log2 := by omega
    rw [hn]
    refine for_rangeC (fun i σ H2 => ∃ (u r : Nat) (y : Option V), σ = [some (.int r), some (.int b), some (.int u), some (.int (b.log2 : Nat)), y] ∧ H2 = H ∧ blen r ≤ blen a ∧ divN b b.log2 (blen a - b.log2 - i) (u, r) = pdiv a b)
      ⟨0, a, none, rfl, rfl, Nat.le_refl _, rfl⟩ ?_ ?_
    · rintro i σ H2 hi ⟨u, r, y, rfl, rfl, hr2, e⟩
      obtain ⟨g, hg⟩ : ∃ g : Nat, blen a - b.log2 - i = g + 1 := ⟨blen a - b.log2 - i - 1, by omega⟩
      have eg : (blen a : Int) - 1 - (b.log2 : Int) + (i : Nat) * (-1) = (g : Int) := by omega
      have hg2 : blen a - b.log2 - (i + 1) = g := by omega
      rw [hg] at e
      have e2 : divN b b.log2 g (divStep b b.log2 (u, r) g) = pdiv a b := e
      show gName 4 (V.int ((blen a : Int) - 1 - (b.log2 : Int) + (i : Nat) * (-1))) _ _ _
      rw [eg]
      have hbg : blen b + g ≤ blen a := by
        rw [blen_pos b0]
        omega
      refine ⟨_, rfl, _, rfl, _, rfl, _, _, rfl, rfl, r, g + b.log2, rfl, rfl, _, 1, rfl, rfl, rfl, _, rfl, ?_⟩
      show if decide (V.int ((r >>> (g + b.log2) &&& 1 : Nat) : Int) = V.int 1) = true then _ else _
      rw [shr_one]
      cases tb : r.testBit (g + b.log2) with
      | true =>
        have es : divStep b b.log2 (u, r) g = (u ||| 1 <<< g, r ^^^ b <<< g) := by
          unfold divStep
          rw [if_pos tb]
        rw [es] at e2
        refine iteT ⟨_, rfl, _, rfl, 1, g, rfl, rfl, by show blen 1 + g ≤ 100000; have : blen 1 = 1 := by decide
                                                        omega, _, _, rfl, rfl, _, rfl, _, rfl, _, rfl, b, g, rfl, rfl, by omega, _, _, rfl, rfl, u ||| 1 <<< g, r ^^^ b <<< g, some (.int g), rfl, rfl, blen_xor hr2 (blen_shl hbg), ?_⟩
        rw [hg2]
        exact e2
      | false =>
        have es : divStep b b.log2 (u, r) g = (u, r) := by
          unfold divStep
          rw [if_neg (by rw [tb]; decide)]
        rw [es] at e2
        refine iteF ⟨u, r, some (.int g), rfl, rfl, hr2, ?_⟩
        rw [hg2]
        exact e2
    · rintro σ H2 ⟨u, r, y, rfl, rfl, hr2, e⟩
      rw [Nat.sub_self] at e
      have e2 : (u, r) = pdiv a b := e
      refine ⟨_, rfl, _, rfl, by show 2 ≤ sizeLine; decide, fun p hp => q p _ (same_upd hp) hp ?_⟩
      rw [upd_same, ← e2]
end
end K61

set_option maxHeartbeats 4000000
namespace K61
open PySem PySem.Spec PyProof.Rows L2 Bx
section
variable {P : Program} {w : World} {K : PySem.W.Frag} {mg : Str → Option Value} {base : Heap}
def sp_quotient_of : Sp := fun vs H Q _ => ∃ a b : Nat, vs = [.int a, .int b] ∧ b ≠ 0 ∧ blen a + blen b ≤ 50000 ∧ ∀ H', Same H H' → Q (.int ((pdiv a b).1 : Nat)) H'
def sp_remainder_of : Sp := fun vs H Q _ => ∃ a b : Nat, vs = [.int a, .int b] ∧ b ≠ 0 ∧ blen a + blen b ≤ 50000 ∧ ∀ H', Same H H' → Q (.int ((pdiv a b).2 : Nat)) H'
theorem sc_quotient_of : FnScope ["one", "other"] ["one", "other"] (defScope (top 13)) := ⟨rfl, rfl, rfl, by decide +kernel, rfl, by decide +kernel, by decide +kernel⟩
theorem sc_remainder_of : FnScope ["one", "other"] ["one", "other"] (defScope (top 14)) := ⟨rfl, rfl, rfl, by decide +kernel, rfl, by decide +kernel, by decide +kernel⟩
theorem ok_quotient_of (T : Txt K mg) (C_division_of : CallF P w K mg base CX0 2 "division_of" ["one", "other"] sp_division_of) : CallF P w K mg base CX0 3 "quotient_of" ["one", "other"] sp_quotient_of := by
  refine callF_of T.d_quotient_of sc_quotient_of (fun _ _ _ _ _ _ us hl => match us, hl with | [_, _], _ => rfl) (fun vs H Q E h => ?_) (fun cdv A outer s H vs Q E hr h => ?_)
  · obtain ⟨a, b, rfl, _⟩ := h
    rfl
  · obtain ⟨a, b, rfl, b0, hab, q⟩ := h
    refine ⟨_, (pss_one (ps_ret (pe_ix ix_tup (pe_f C_division_of (hr.mono (by decide)) (by rfl) pass0 (pa_cons (pv 0) (pa_cons (pv 1) pa_nil))) pe_int (fun _ _ => rfl)))), ?_⟩
    refine ⟨_, rfl, _, rfl, a, b, rfl, b0, hab, fun p H' sm np hp => ?_⟩
    exact ⟨p, _, 0, _, rfl, rfl, .inl (.inl hp), atI_nat (j := 0) rfl, q H' sm⟩
theorem ok_remainder_of (T : Txt K mg) (C_division_of : CallF P w K mg base CX0 2 "division_of" ["one", "other"] sp_division_of) : CallF P w K mg base CX0 3 "remainder_of" ["one", "other"] sp_remainder_of := by
  refine callF_of T.d_remainder_of sc_remainder_of (fun _ _ _ _ _ _ us hl => match us, hl with | [_, _], _ => rfl) (fun vs H Q E h => ?_) (fun cdv A outer s H vs Q E hr h => ?_)
  · obtain ⟨a, b, rfl, _⟩ := h
    rfl
  · obtain ⟨a, b, rfl, b0, hab, q⟩ := h
    refine ⟨_, (pss_one (ps_ret (pe_ix ix_tup (pe_f C_division_of (hr.mono (by decide)) (by rfl) pass0 (pa_cons (pv 0) (pa_cons (pv 1) pa_nil))) pe_int (fun _ _ => rfl)))), ?_⟩
    refine ⟨_, rfl, _, rfl, a, b, rfl, b0, hab, fun p H' sm np hp => ?_⟩
    exact ⟨p, _, 1, _, rfl, rfl, .inl (.inl hp), atI_nat (j := 1) rfl, q H' sm⟩
def sp_divisor_of : Sp := fun vs H Q _ => ∃ a b : Nat, vs = [.int a, .int b] ∧ blen a ≤ 20000 ∧ blen b ≤ 20000 ∧ ∀ H', Same H H' → Q (.int (pgcd a b : Nat)) H'
theorem sc_divisor_of : FnScope ["one", "other"] ["one", "other"] (defScope (top 15)) := ⟨rfl, rfl, rfl, by decide +kernel, rfl, by decide +kernel, by decide +kernel⟩
theorem ok_divisor_of (T : Txt K mg) (C_remainder_of : CallF P w K mg base CX0 3 "remainder_of" ["one", "other"] sp_remainder_of) : CallF P w K mg base CX0 4 "divisor_of" ["one", "other"] sp_divisor_of := by
  refine callF_of T.d_divisor_of sc_divisor_of (fun _ _ _ _ _ _ us hl => match us, hl with | [_, _], _ => rfl) (fun vs H Q E h => ?_) (fun cdv A outer s H vs Q E hr h => ?_)
  · obtain ⟨a, b, rfl, _⟩ := h
    rfl
  · obtain ⟨a, b, rfl, ha, hb, q⟩ := h
    refine ⟨_, (pss_cons (ps_while PassesOwn.never (pt_cmpR op_gt (pv 1) pe_int (nomark _))
          (pss_one (ps_par (i := 0) (j := 1) (by rfl) sc_divisor_of.nd rfl rfl (by decide) rfl rfl (pa_cons (pv 1) (pa_cons (pe_f C_remainder_of (hr.mono (by decide)) (by rfl) pass0 (pa_cons (pv 0) (pa_cons (pv 1) pa_nil))) pa_nil)) (by rfl))))
      (pss_one (ps_ret (pv 0)))), ?_⟩
    refine ⟨fun m σ H2 => ∃ x y : Nat, m = blen y ∧ σ = [some (.int x), some (.int y)] ∧ Same H H2 ∧ blen x ≤ 20000 ∧ blen y ≤ 20000 ∧ pgcd x y = pgcd a b, ⟨blen b, a, b, rfl, rfl, Same.refl H, ha, hb, rfl⟩, fun m σ H2 hW => ?_⟩
    obtain ⟨x, y, rfl, rfl, sm, hx, hy, e⟩ := hW
    refine ⟨_, rfl, _, _, rfl, rfl, _, rfl, ?_⟩
    by_cases c : y > 0
    · rw [decide_eq_true (show (y : Int) > 0 by omega)]
      have y0 : y ≠ 0 := by omega
      have hrem := pdiv_rem_lt (a := x) y0
      refine iteT ⟨fun σ' H' => ∃ m' : Nat, m' < blen y ∧ ∃ x y : Nat, m' = blen y ∧ σ' = [some (.int x), some (.int y)] ∧ Same H H' ∧ blen x ≤ 20000 ∧ blen y ≤ 20000 ∧ pgcd x y = pgcd a b, fun _ _ z => z, ?_⟩
      refine ⟨_, rfl, _, rfl, _, rfl, x, y, rfl, y0, by omega, fun H3 s3 => ?_⟩
      refine ⟨_, _, rfl, blen (pdiv x y).2, hrem, y, (pdiv x y).2, rfl, rfl, sm.trans s3, hy, by omega, ?_⟩
      rw [← pgcd_turn y0]
      exact e
    · rw [decide_eq_false (show ¬ (y : Int) > 0 by omega)]
      have : y = 0 := by omega
      subst this
      rw [pgcd_zero] at e
      subst e
      exact iteF ⟨_, rfl, q H2 sm⟩
def sp_power_of : Sp := fun vs H Q _ => ∃ a e m : Nat, vs = [.int a, .int e, .int m] ∧ m ≠ 0 ∧ blen a ≤ 5000 ∧ blen m ≤ 5000 ∧ ∀ H', Same H H' → Q (.int (ppow m (pdiv 1 m).2 (pdiv a m).2 e : Nat)) H'
theorem sc_power_of : FnScope ["word", "exponent", "modulus", "found", "base"] ["word", "exponent", "modulus"] (defScope (top 16)) := ⟨rfl, rfl, rfl, by decide +kernel, rfl, by decide +kernel, by decide +kernel⟩
theorem ok_power_of (T : Txt K mg) (C_remainder_of : CallF P w K mg base CX0 3 "remainder_of" ["one", "other"] sp_remainder_of) (C_product_of : CallF P w K mg base CX0 1 "product_of" ["one", "other"] sp_product_of) : CallF P w K mg base CX0 4 "power_of" ["word", "exponent", "modulus"] sp_power_of := by
  refine callF_of T.d_power_of sc_power_of (fun _ _ _ _ _ _ us hl => match us, hl with | [_, _, _], _ => rfl) (fun vs H Q E h => ?_) (fun cdv A outer s H vs Q E hr h => ?_)
  · obtain ⟨a, e, m, rfl, _⟩ := h
    rfl
  · obtain ⟨a, e, m, rfl, m0, ha, hm, q⟩ := h
    refine ⟨_, (pss_cons (ps_par (i := 3) (j := 4) (by rfl) sc_power_of.nd rfl rfl (by decide) rfl rfl (pa_cons (pe_f C_remainder_of (hr.mono (by decide)) (by rfl) pass0 (pa_cons pe_int (pa_cons (pv 2) pa_nil))) (pa_cons (pe_f C_remainder_of (hr.mono (by decide)) (by rfl) pass0 (pa_cons (pv 0) (pa_cons (pv 2) pa_nil))) pa_nil)) (by rfl))
      (pss_cons (ps_while PassesOwn.never (pt_cmpR op_gt (pv 1) pe_int (nomark _))
          (pss_cons (ps_if (pt_cmpR op_eq (pe_op op_band (pv 1) pe_int) pe_int (nomark _))
              (pss_one (ps_set (i := 3) sc_power_of.nd rfl (.inl rfl) (pe_f C_remainder_of (hr.mono (by decide)) (by rfl) pass0 (pa_cons (pe_f C_product_of (hr.mono (by decide)) (by rfl) pass0 (pa_cons (pv 3) (pa_cons (pv 4) pa_nil))) (pa_cons (pv 2) pa_nil)))))
              pss_nil)
          (pss_cons (ps_set (i := 4) sc_power_of.nd rfl (.inl rfl) (pe_f C_remainder_of (hr.mono (by decide)) (by rfl) pass0 (pa_cons (pe_f C_product_of (hr.mono (by decide)) (by rfl) pass0 (pa_cons (pv 4) (pa_cons (pv 4) pa_nil))) (pa_cons (pv 2) pa_nil))))
          (pss_one (ps_set (i := 1) sc_power_of.nd rfl (.inl rfl) (pe_op op_bshr (pv 1) pe_int))))))
      (pss_one (ps_ret (pv 3))))), ?_⟩
    have b1 : blen 1 = 1 := by decide
    refine ⟨_, rfl, 1, m, rfl, m0, by omega, fun H1 s1 => ⟨_, rfl, _, rfl, a, m, rfl, m0, by omega, fun H2 s2 => ⟨_, _, rfl, ?_⟩⟩⟩
    have r1 := pdiv_rem_lt (a := 1) m0
    have r2 := pdiv_rem_lt (a := a) m0
    refine ⟨fun k σ H3 => ∃ f b : Nat, σ = [some (.int a), some (.int k), some (.int m), some (.int f), some (.int b)] ∧ Same H H3 ∧ blen f ≤ 5000 ∧ blen b ≤ 5000 ∧ ppow m f b k = ppow m (pdiv 1 m).2 (pdiv a m).2 e,
      ⟨e, _, _, rfl, s1.trans s2, by omega, by omega, rfl⟩, fun k σ H3 hW => ?_⟩
    obtain ⟨f, b, rfl, s3, hf, hb, eq⟩ := hW
    refine ⟨_, rfl, _, _, rfl, rfl, _, rfl, ?_⟩
    by_cases c : k > 0
    · rw [decide_eq_true (show (k : Int) > 0 by omega)]
      rw [ppow_turn (by omega)] at eq
      have k2 : k >>> 1 = k / 2 := rfl
      have k3 : k / 2 < k := Nat.div_lt_self c (by decide)
      refine iteT ⟨fun σ' H' => ∃ m' : Nat, m' < k ∧ ∃ f b : Nat, σ' = [some (.int a), some (.int m'), some (.int m), some (.int f), some (.int b)] ∧ Same H H' ∧ blen f ≤ 5000 ∧ blen b ≤ 5000 ∧ ppow m f b m' = ppow m (pdiv 1 m).2 (pdiv a m).2 e, fun _ _ z => z, ?_⟩
      refine ⟨_, rfl, k, 1, rfl, rfl, rfl, _, rfl, ?_⟩
      show if decide (V.int ((k &&& 1 : Nat) : Int) = V.int 1) = true then _ else _
      rw [Nat.and_one_is_mod]
      have rb := pdiv_rem_lt (a := pmul b b) m0
      have pb : blen (pmul b b) ≤ 10000 := pmul_blen (by omega)
      rcases Nat.mod_two_eq_zero_or_one k with z | z
      · have es : powStep m f b k = f := by
          unfold powStep
          rw [if_neg (by omega)]
        rw [es] at eq
        rw [z]
        refine iteF ⟨_, rfl, _, rfl, b, b, rfl, by omega, _, rfl, _, m, rfl, m0, by omega, fun H4 s4 => ?_⟩
        exact ⟨_, rfl, k, 1, rfl, rfl, k / 2, k3, f, _, rfl, s3.trans s4, hf, by omega, eq⟩
      · have es : powStep m f b k = (pdiv (pmul f b) m).2 := by
          unfold powStep
          rw [if_pos z]
        rw [es] at eq
        rw [z]
        have rf := pdiv_rem_lt (a := pmul f b) m0
        have pf : blen (pmul f b) ≤ 10000 := pmul_blen (by omega)
        refine iteT ⟨_, rfl, _, rfl, f, b, rfl, by omega, _, rfl, _, m, rfl, m0, by omega, fun H4 s4 => ?_⟩
        refine ⟨_, rfl, _, rfl, b, b, rfl, by omega, _, rfl, _, m, rfl, m0, by omega, fun H5 s5 => ?_⟩
        exact ⟨_, rfl, k, 1, rfl, rfl, k / 2, k3, _, _, rfl, (s3.trans s4).trans s5, by omega, by omega, eq⟩
    · rw [decide_eq_false (show ¬ (k : Int) > 0 by omega)]
      have : k = 0 := by omega
      subst this
      rw [ppow_zero] at eq
      subst eq
      exact iteF ⟨_, rfl, q H3 s3⟩
/-! ### texts -/
def termT (e : Nat) : Str := if e = 0 then "1" else if e = 1 then "t" else ("t**" : Str) ++ Str.ofString (toString (e : Int))
theorem log2_small {e : Nat} (h : e < 2 ^ 60) : (e : Int).natAbs.log2 < 1920 := okV_nat (Nat.lt_of_lt_of_le h (Nat.pow_le_pow_right (by decide) (by decide)))
theorem termT_len {e : Nat} (h : e < 2 ^ 60) : (termT e).length ≤ 1924 := by
  unfold termT
  split
  · decide +kernel
  · split
    · decide +kernel
    · have := int_text_len_1921 (log2_small h)
      rw [Str.length_append]
      have : ("t**" : Str).length = 3 := by decide +kernel
      omega
def sp_term_text : Sp := fun vs H Q _ => ∃ e : Nat, vs = [.int e] ∧ e < 2 ^ 60 ∧ Q (.str (termT e)) H
theorem sc_term_text : FnScope ["exponent"] ["exponent"] (defScope (top 17)) := ⟨rfl, rfl, rfl, by decide +kernel, rfl, by decide +kernel, by decide +kernel⟩
theorem ok_term_text (T : Txt K mg) : CallF P w K mg base CX0 1 "term_text" ["exponent"] sp_term_text := by
  refine callF_of T.d_term_text sc_term_text (fun _ _ _ _ _ _ us hl => match us, hl with | [_], _ => rfl) (fun vs H Q E h => ?_) (fun cdv A outer s H vs Q E hr h => ?_)
  · obtain ⟨e, rfl, _⟩ := h
    rfl
  · obtain ⟨e, rfl, he, q⟩ := h
    refine ⟨_, (pss_cons (ps_if (pt_cmpR op_eq (pv 0) pe_int (nomark _))
          (pss_one (ps_ret pe_str))
          pss_nil)
      (pss_one (ps_ret (pe_ifExp (pt_cmpR op_eq (pv 0) pe_int (nomark _)) pe_str (pe_op op_add_str pe_str (pe_callTy call_str_int (by rfl) T.b_str bt_str (pa_cons (pv 0) pa_nil))))))), ?_⟩
    refine ⟨_, rfl, rfl, _, rfl, ite2 (fun c => ?_) (fun c => ?_)⟩
    · have e0 : e = 0 := by
        have := V.int.inj (of_decide_eq_true c)
        omega
      subst e0
      exact q
    · have e0 : ¬ e = 0 := fun z => by
        subst z
        exact c (decide_eq_true rfl)
      refine ⟨_, rfl, rfl, _, rfl, ite2 (fun c2 => ?_) (fun c2 => ?_)⟩
      · have e1 : e = 1 := by
          have := V.int.inj (of_decide_eq_true c2)
          omega
        subst e1
        exact q
      · have e1 : ¬ e = 1 := fun z => by
          subst z
          exact c2 (decide_eq_true rfl)
        have ht : termT e = ("t**" : Str) ++ Str.ofString (toString (e : Int)) := by
          unfold termT
          rw [if_neg e0, if_neg e1]
        have hl := int_text_len_1921 (log2_small he)
        refine ⟨_, rfl, _, rfl, log2_small he, _, _, rfl, rfl, ?_, ?_⟩
        · have : ("t**" : Str).length = 3 := by decide +kernel
          have esz : sizeLine = 16777216 := by decide
          show ("t**" : Str).length + (Str.ofString (toString (e : Int))).length ≤ sizeLine
          omega
        · rw [← ht]
          exact q
/-- the exponents, falling -/
def expsN (n : Nat) : List Nat := (bitsN n).reverse
def polyT (n : Nat) : Str := if n = 0 then "0" else Txt.join " + " ((expsN n).map termT)
end
end K61

set_option maxHeartbeats 4000000
namespace K61
open PySem PySem.Spec PyProof.Rows L2 Bx
theorem bitsN_blen (n : Nat) : (List.range (blen n)).filter n.testBit = bitsN n := bitsN_of fun _ e => testBit_blen e
def expI (n i : Nat) : List Nat := ((List.range i).map fun j => blen n - 1 - j).filter n.testBit
theorem expI_succ (n i : Nat) : expI n (i + 1) = expI n i ++ (if n.testBit (blen n - 1 - i) then [blen n - 1 - i] else []) := by
  unfold expI
  rw [List.range_succ, List.map_append, List.filter_append]
  congr 1
  cases e : n.testBit (blen n - 1 - i) <;> simp [e]
theorem range_rev (m : Nat) : (List.range m).map (fun j => m - 1 - j) = (List.range m).reverse := by
  refine List.ext_getElem (by simp) fun i h1 h2 => ?_
  have h3 : i < m := by simpa using h1
  simp [List.getElem_reverse]
theorem expI_all (n : Nat) : expI n (blen n) = expsN n := by
  unfold expI expsN
  rw [range_rev, List.filter_reverse, bitsN_blen]
theorem expI_len (n i : Nat) : (expI n i).length ≤ i := by
  unfold expI
  have := List.length_filter_le n.testBit ((List.range i).map fun j => blen n - 1 - j)
  simpa using this
theorem exps_lt {n e : Nat} (h : e ∈ expsN n) : e < blen n := testBit_blen (mem_bitsN.mp (List.mem_reverse.mp h))
theorem exps_len (n : Nat) : (expsN n).length ≤ blen n := by
  rw [← expI_all]
  exact expI_len n _
theorem sum_le {l : List Nat} {m : Nat} (h : ∀ x ∈ l, x ≤ m) : l.sum ≤ l.length * m := by
  induction l with
  | nil => exact Nat.zero_le _
  | cons x r ih =>
    rw [List.sum_cons, List.length_cons, Nat.succ_mul]
    have := h x (List.mem_cons_self ..)
    have := ih fun y hy => h y (List.mem_cons_of_mem _ hy)
    omega
theorem terms_size {n : Nat} (h : blen n ≤ 1000) : (((expsN n).map termT).map (·.length)).sum + ((expsN n).map termT).length * (" + " : Str).length ≤ 16777216 := by
  have h1 : (((expsN n).map termT).map (·.length)).sum ≤ (((expsN n).map termT).map (·.length)).length * 1924 := by
    refine sum_le fun x hx => ?_
    obtain ⟨t, ht, rfl⟩ := List.mem_map.mp hx
    obtain ⟨e, he, rfl⟩ := List.mem_map.mp ht
    have := exps_lt he
    exact termT_len (Nat.lt_of_lt_of_le (show e < 1000 by omega) (by decide))
  have h2 := exps_len n
  have h3 : (" + " : Str).length = 3 := by decide +kernel
  rw [List.length_map, List.length_map] at h1
  rw [List.length_map, h3]
  omega
section
variable {P : Program} {w : World} {K : PySem.W.Frag} {mg : Str → Option Value} {base : Heap}
def sp_text_of : Sp := fun vs H Q _ => ∃ n : Nat, vs = [.int n] ∧ blen n ≤ 1000 ∧ ∀ H', Same H H' → Q (.str (polyT n)) H'
theorem sc_text_of : FnScope ["word", "exponents", "exponent"] ["word"] (defScope (top 18)) := ⟨rfl, rfl, rfl, by decide +kernel, rfl, by decide +kernel, by decide +kernel⟩
theorem ok_text_of (T : Txt K mg) (C_degree_of : CallF P w K mg base CX0 1 "degree_of" ["word"] sp_degree_of) (C_term_text : CallF P w K mg base CX0 1 "term_text" ["exponent"] sp_term_text) : CallF P w K mg base CX0 2 "text_of" ["word"] sp_text_of := by
  refine callF_of T.d_text_of sc_text_of (fun _ _ _ _ _ _ us hl => match us, hl with | [_], _ => rfl) (fun vs H Q E h => ?_) (fun cdv A outer s H vs Q E hr h => ?_)
  · obtain ⟨n, rfl, _⟩ := h
    rfl
  · obtain ⟨n, rfl, hn, q⟩ := h
    refine ⟨_, (pss_cons (ps_setLc (i := 1) (own := [("exponent", 2)]) (by rfl) sc_text_of.nd rfl rfl (sw_true rfl rfl rfl (by decide +kernel)) (pi_range3 (by rfl) T.b_range (pa_cons (pe_f C_degree_of (hr.mono (by decide)) (by rfl) pass0 (pa_cons (pv 0) pa_nil)) (pa_cons (pe_un un_neg pe_int) (pa_cons (pe_un un_neg pe_int) pa_nil)))) (blkOk_by (own := [("exponent", 2)]) (N := ["word", "exponents", "exponent"]) (sc := defScope (top 18)) (by decide +kernel)) (fun _ _ _ _ _ => (pg_name (i := 2) sc_text_of.nd rfl (.inl rfl))) (fun _ _ _ _ _ => (pts_one (pt_cmpR op_eq (pe_op op_band (pe_op op_bshr (pv 0) (pv 2)) pe_int) pe_int (nomark _)))) (fun _ _ _ _ _ => (pv 2)))
      (pss_one (ps_ret (pe_ifExp (pt_cmpR op_gt (pv 0) pe_int (nomark _)) (pe_join pe_str (pe_lc (own := [("exponent", 2)]) (by rfl) sc_text_of.nd (pi_list (pv 1)) (blkOk_by (own := [("exponent", 2)]) (N := ["word", "exponents", "exponent"]) (sc := defScope (top 18)) (by decide +kernel)) (fun _ _ _ _ _ => (pg_name (i := 2) sc_text_of.nd rfl (.inl rfl))) (fun _ _ _ _ _ => pts_nil) (fun _ _ _ _ _ => (pe_f C_term_text (hr.mono (by decide)) (by rfl) pass0 (pa_cons (pv 2) pa_nil))))) pe_str)))), ?_⟩
    refine ⟨_, rfl, n, rfl, 1, rfl, 1, rfl, _, -1, -1, _, rfl, RgC.neg (by omega) (by omega) (by decide) (by decide), fun D nD => ?_⟩
    have hk : ((blen n : Int) - 1 - -1).toNat = blen n := by omega
    rw [hk]
    refine lc_it walk_rangeC (fun i H' => Same H H' ∧ H' D = some (.lst (nats (expI n i)))) ⟨same_upd nD, upd_same⟩ (fun _ _ _ _ => trivial) ?_ ?_
    · rintro i v H2 H3 hi ⟨sm, hd⟩ ⟨rfl, rfl⟩
      have eg : (blen n : Int) - 1 + (i : Nat) * (-1) = ((blen n - 1 - i : Nat) : Int) := by omega
      show gName 2 (V.int ((blen n : Int) - 1 + (i : Nat) * (-1))) _ _ _
      rw [eg]
      refine ⟨rfl, _, rfl, _, rfl, n, blen n - 1 - i, rfl, rfl, _, 1, rfl, rfl, rfl, _, rfl, ?_⟩
      show if decide (V.int ((n >>> (blen n - 1 - i) &&& 1 : Nat) : Int) = V.int 1) = true then _ else _
      rw [shr_one]
      have es := expI_succ n i
      cases tb : n.testBit (blen n - 1 - i) with
      | true =>
        rw [tb] at es
        refine iteT ⟨_, rfl, _, hd, ?_, same_put sm nD, ?_⟩
        · rw [List.length_map]
          exact Nat.lt_of_le_of_lt (expI_len n i) (small1000 (by omega))
        · rw [upd_same, es]
          simp [nats]
      | false =>
        rw [tb] at es
        refine iteF ⟨sm, ?_⟩
        rw [hd, es]
        simp
    · rintro H2 ⟨sm, hd⟩
      rw [expI_all] at hd
      refine ⟨_, rfl, _, _, rfl, rfl, _, rfl, ?_⟩
      by_cases c : n > 0
      · have e0 : ¬ n = 0 := by omega
        rw [decide_eq_true (show (n : Int) > 0 by omega)]
        refine iteT ⟨⟨_, rfl⟩, _, rfl, D, rfl, ⟨_, .inl (.inl hd)⟩, fun D2 nD2 => ?_⟩
        refine lc_list (K := K) (a := D) (xs := nats (expsN n)) (fun i H' => Same H2 H' ∧ H' D2 = some (.lst (((expsN n).take i).map fun e => V.str (termT e)))) ⟨same_upd nD2, upd_same⟩ (fun i H' _ z => .inl (.inl (z.1 _ _ hd))) ?_ ?_
        · rintro i x H3 hx ⟨s3, hd3⟩
          obtain ⟨e, ee, rfl⟩ := nats_at hx
          have he := exps_lt (List.mem_of_getElem? ee)
          refine ⟨rfl, _, rfl, e, rfl, Nat.lt_of_lt_of_le (show e < 1000 by omega) (by decide), _, hd3, ?_, same_put s3 nD2, ?_⟩
          · rw [List.length_map, List.length_take]
            have := exps_len n
            exact small1000 (by omega)
          · rw [upd_same, List.take_add_one, ee]
            simp
        · rintro H3 ⟨s3, hd3⟩
          have et : (expsN n).take (nats (expsN n)).length = expsN n := by
            rw [List.length_map, List.take_length]
          rw [et] at hd3
          have em : ((expsN n).map fun e => V.str (termT e)) = ((expsN n).map termT).map V.str := by
            rw [List.map_map]
            rfl
          rw [em] at hd3
          have et2 : polyT n = Txt.join " + " ((expsN n).map termT) := by
            unfold polyT
            rw [if_neg e0]
          refine ⟨_, D2, _, rfl, rfl, .inl (.inl (.inl hd3)), terms_size hn, ?_⟩
          rw [← et2]
          exact q H3 (sm.trans s3)
      · have e0 : n = 0 := by omega
        subst e0
        rw [decide_eq_false (by decide)]
        exact iteF (q H2 sm)
end
end K61

set_option maxHeartbeats 4000000
namespace K61
open PySem PySem.Spec PyProof.Rows L2 Bx
abbrev CP (K : PySem.W.Frag) : Addr := He.ga K "Polynomial"
/-- a Polynomial with the word n stands at p -/
def PolyAt (K : PySem.W.Frag) (H : Hp) (p : Addr) (n : Nat) : Prop := ∃ dx, H p = some (.ins (CP K) dx [("own_word", .int n)])
theorem PolyAt.same {K : PySem.W.Frag} {H H' : Hp} {p : Addr} {n : Nat} (h : PolyAt K H p n) (s : Same H H') : PolyAt K H' p n := by
  obtain ⟨dx, e⟩ := h
  exact ⟨dx, s _ _ e⟩
theorem look_word (n : Nat) : ([(("own_word" : Str), V.int n)] : List (Str × V)).lookup ("own_word" : Str) = some (.int n) := by
  show (match (("own_word" : Str) == ("own_word" : Str)) with | true => some (V.int n) | false => none) = _
  rw [beq_self_eq_true]
section
variable {P : Program} {w : World} {K : PySem.W.Frag} {mg : Str → Option Value} {base : Heap}
def sp_init (K : PySem.W.Frag) : Sp := fun vs H Q _ => ∃ (p dx : Addr) (n : Nat), vs = [.ref p, .int n] ∧ H p = some (.ins (CP K) dx []) ∧ Q .non (upd H p (.ins (CP K) dx [("own_word", .int n)]))
theorem sc_Polynomial_init : FnScope ["self", "word"] ["self", "word"] (defScope (inClass (top 19) 0)) := ⟨rfl, rfl, rfl, by decide +kernel, rfl, by decide +kernel, by decide +kernel⟩
theorem ok_init (T : Txt K mg) (C_is_natural : CallF P w K mg base CX0 1 "is_natural" ["value"] sp_is_natural) : FnN P w K mg base CX0 2 (He.ma K (CP K) "__init__") ["self", "word"] (sp_init K) := by
  refine fnN_of T.d_Polynomial_init sc_Polynomial_init (fun _ _ _ _ _ _ us hl => match us, hl with | [_, _], _ => rfl) (fun vs H Q E h => ?_) (fun cdv A outer s H vs Q E hr h => ?_)
  · obtain ⟨p, dx, n, rfl, _⟩ := h
    rfl
  · obtain ⟨p, dx, n, rfl, hp, q⟩ := h
    refine ⟨_, (pss_cons (ps_if (pt_not (pt_val (pe_f C_is_natural (hr.mono (by decide)) (by rfl) pass0 (pa_cons (pv 1) pa_nil))))
          (pss_one ps_never)
          pss_nil)
      (pss_one (ps_fld (pv 0) (pv 1) rfl))), ?_⟩
    refine ⟨_, rfl, n, rfl, true, rfl, iteF ⟨_, rfl, _, rfl, p, _, dx, _, rfl, hp, T.o_Polynomial.cls, T.n_Polynomial_own_word, by show 0 < 1000; decide, ?_⟩⟩
    exact q
/-- Polynomial(n) -/
def rMkP (K : PySem.W.Frag) : List V → Hp → VK → Prop := fun vs H Q => ∃ n : Nat, vs = [.int n] ∧ ∀ p H', Same H H' → H p = none → PolyAt K H' p n → Q (.ref p) H'
theorem pe_poly {X : Cx} {p pos : Pos} {e : Expr} {es : List Expr} {t : TA} (T : Txt X.K X.mg) (M : FnN X.prog X.w X.K X.mg X.base CX0 2 (He.ma X.K (CP X.K) "__init__") ["self", "word"] (sp_init X.K)) (hr : Room 3 X.A) (hg : Gl X "Polynomial") (ha : PA X (e :: es) t)
    (he : starEach (e :: es) X.env = (false, eval e X.env) :: starEach es X.env := by rfl) (hpl : (backTo pos (starEach es X.env)).any (·.1) = false := by rfl) :
    PE X (.Call (.Name "Polynomial" p) (e :: es) [] pos) (fun σ H Q => t σ H fun vs H1 => rMkP X.K vs H1 Q) := by
  refine pe_mkW (R := rMkP X.K) T.o_Polynomial T.m_Polynomial_init M hr hg T.k_Polynomial pass0 (fun vs H Q h p dx n1 n2 ne => ?_) ha (by decide) he hpl
  obtain ⟨n, rfl, q⟩ := h
  refine ⟨p, dx, n, rfl, upd_same, rfl, ?_⟩
  refine q p _ (fun b o hb => ?_) n1 ⟨dx, upd_same⟩
  rw [upd_ne (ne_of_none hb n1), upd_ne (ne_of_none hb n1), upd_ne (ne_of_none hb n2)]
  exact hb
def sp_word (K : PySem.W.Frag) : Sp := fun vs H Q _ => ∃ (p : Addr) (n : Nat), vs = [.ref p] ∧ PolyAt K H p n ∧ Q (.int n) H
theorem sc_Polynomial_word : FnScope ["self"] ["self"] (defScope (inClass (top 19) 2)) := ⟨rfl, rfl, rfl, by decide +kernel, rfl, by decide +kernel, by decide +kernel⟩
theorem ok_word (T : Txt K mg) : FnN P w K mg base CX0 1 (pgA K (CP K) "word") ["self"] (sp_word K) := by
  refine fnN_of T.d_Polynomial_word sc_Polynomial_word (fun _ _ _ _ _ _ us hl => match us, hl with | [_], _ => rfl) (fun vs H Q E h => ?_) (fun cdv A outer s H vs Q E hr h => ?_)
  · obtain ⟨p, n, rfl, _⟩ := h
    rfl
  · obtain ⟨p, n, rfl, ⟨dx, hp⟩, q⟩ := h
    refine ⟨_, (pss_one (ps_ret (pe_fld (pv 0) rfl))), ?_⟩
    exact ⟨_, rfl, p, _, dx, _, _, rfl, hp, T.o_Polynomial.cls, T.n_Polynomial_own_word, look_word n, q⟩
def sp_degree (K : PySem.W.Frag) : Sp := fun vs H Q _ => ∃ (p : Addr) (n : Nat), vs = [.ref p] ∧ PolyAt K H p n ∧ Q (.int ((blen n : Int) - 1)) H
theorem sc_Polynomial_degree : FnScope ["self"] ["self"] (defScope (inClass (top 19) 3)) := ⟨rfl, rfl, rfl, by decide +kernel, rfl, by decide +kernel, by decide +kernel⟩
theorem ok_degree (T : Txt K mg) (C_degree_of : CallF P w K mg base CX0 1 "degree_of" ["word"] sp_degree_of) : FnN P w K mg base CX0 2 (pgA K (CP K) "degree") ["self"] (sp_degree K) := by
  refine fnN_of T.d_Polynomial_degree sc_Polynomial_degree (fun _ _ _ _ _ _ us hl => match us, hl with | [_], _ => rfl) (fun vs H Q E h => ?_) (fun cdv A outer s H vs Q E hr h => ?_)
  · obtain ⟨p, n, rfl, _⟩ := h
    rfl
  · obtain ⟨p, n, rfl, ⟨dx, hp⟩, q⟩ := h
    refine ⟨_, (pss_one (ps_ret (pe_f C_degree_of (hr.mono (by decide)) (by rfl) pass0 (pa_cons (pe_fld (pv 0) rfl) pa_nil)))), ?_⟩
    exact ⟨_, rfl, p, _, dx, _, _, rfl, hp, T.o_Polynomial.cls, T.n_Polynomial_own_word, look_word n, n, rfl, q⟩
def sp_word_in (K : PySem.W.Frag) : Sp := fun vs H Q _ => ∃ (p : Addr) (n : Nat), vs = [.ref p] ∧ PolyAt K H p n ∧ Q (.int n) H
theorem sc_word_in : FnScope ["value"] ["value"] (defScope (top 20)) := ⟨rfl, rfl, rfl, by decide +kernel, rfl, by decide +kernel, by decide +kernel⟩
theorem ok_word_in (T : Txt K mg) (M_Polynomial_word : FnN P w K mg base CX0 1 (pgA K (CP K) "word") ["self"] (sp_word K)) : CallF P w K mg base CX0 3 "word_in" ["value"] (sp_word_in K) := by
  refine callF_of T.d_word_in sc_word_in (fun _ _ _ _ _ _ us hl => match us, hl with | [_], _ => rfl) (fun vs H Q E h => ?_) (fun cdv A outer s H vs Q E hr h => ?_)
  · obtain ⟨p, n, rfl, _⟩ := h
    rfl
  · obtain ⟨p, n, rfl, hP, q⟩ := h
    obtain ⟨dx, hp⟩ := id hP
    refine ⟨_, (pss_cons (ps_if (pt_not (pt_val (pe_callB call_isi (by rfl) T.b_isinstance bb_isinstance (pa_cons (pv 0) (pa_cons (pe_gRef (by rfl) T.k_Polynomial) pa_nil)))))
          (pss_one ps_never)
          pss_nil)
      (pss_one (ps_ret (pe_prp T.o_Polynomial (pv 0) T.p_Polynomial_word M_Polynomial_word (hr.mono (by decide)))))), ?_⟩
    exact ⟨_, rfl, _, .ref (CP K), _, _, true, rfl, .own _, T.o_Polynomial.ty hp, T.o_Polynomial.self, true, rfl, iteF ⟨_, rfl, p, dx, _, rfl, hp, p, n, rfl, hP, q⟩⟩
def sp_divisor_in (K : PySem.W.Frag) : Sp := fun vs H Q _ => ∃ (p : Addr) (n : Nat), vs = [.ref p] ∧ PolyAt K H p n ∧ n ≠ 0 ∧ Q (.int n) H
theorem sc_divisor_in : FnScope ["value", "word"] ["value"] (defScope (top 21)) := ⟨rfl, rfl, rfl, by decide +kernel, rfl, by decide +kernel, by decide +kernel⟩
theorem ok_divisor_in (T : Txt K mg) (C_word_in : CallF P w K mg base CX0 3 "word_in" ["value"] (sp_word_in K)) : CallF P w K mg base CX0 4 "divisor_in" ["value"] (sp_divisor_in K) := by
  refine callF_of T.d_divisor_in sc_divisor_in (fun _ _ _ _ _ _ us hl => match us, hl with | [_], _ => rfl) (fun vs H Q E h => ?_) (fun cdv A outer s H vs Q E hr h => ?_)
  · obtain ⟨p, n, rfl, _⟩ := h
    rfl
  · obtain ⟨p, n, rfl, hP, n0, q⟩ := h
    refine ⟨_, (pss_cons (ps_set (i := 1) sc_divisor_in.nd rfl (.inl rfl) (pe_f C_word_in (hr.mono (by decide)) (by rfl) pass0 (pa_cons (pv 0) pa_nil)))
      (pss_cons (ps_if (pt_cmpR op_eq (pv 1) pe_int (nomark _))
          (pss_one ps_never)
          pss_nil)
      (pss_one (ps_ret (pv 1))))), ?_⟩
    refine ⟨_, rfl, p, n, rfl, hP, _, rfl, rfl, _, rfl, ?_⟩
    have e : decide (V.int (n : Int) = V.int 0) = false := decide_eq_false fun z => n0 (by
      have := V.int.inj z
      omega)
    rw [e]
    exact iteF ⟨_, rfl, q⟩
/-- a binary operation that makes a new Polynomial -/
def sp_bin (K : PySem.W.Frag) (C : Nat → Nat → Prop) (g : Nat → Nat → Nat) : Sp := fun vs H Q _ => ∃ (p r : Addr) (a b : Nat), vs = [.ref p, .ref r] ∧ PolyAt K H p a ∧ PolyAt K H r b ∧ C a b ∧
  ∀ q H', Same H H' → H q = none → PolyAt K H' q (g a b) → Q (.ref q) H'
abbrev small (a b : Nat) : Prop := blen a ≤ 5000 ∧ blen b ≤ 5000
abbrev divs (a b : Nat) : Prop := blen a ≤ 5000 ∧ blen b ≤ 5000 ∧ b ≠ 0
theorem sc_Polynomial_add : FnScope ["self", "other"] ["self", "other"] (defScope (inClass (top 19) 4)) := ⟨rfl, rfl, rfl, by decide +kernel, rfl, by decide +kernel, by decide +kernel⟩
theorem sc_Polynomial_mul : FnScope ["self", "other"] ["self", "other"] (defScope (inClass (top 19) 5)) := ⟨rfl, rfl, rfl, by decide +kernel, rfl, by decide +kernel, by decide +kernel⟩
theorem sc_Polynomial_floordiv : FnScope ["self", "other"] ["self", "other"] (defScope (inClass (top 19) 6)) := ⟨rfl, rfl, rfl, by decide +kernel, rfl, by decide +kernel, by decide +kernel⟩
theorem sc_Polynomial_mod : FnScope ["self", "other"] ["self", "other"] (defScope (inClass (top 19) 7)) := ⟨rfl, rfl, rfl, by decide +kernel, rfl, by decide +kernel, by decide +kernel⟩
theorem sc_Polynomial_gcd : FnScope ["self", "other"] ["self", "other"] (defScope (inClass (top 19) 8)) := ⟨rfl, rfl, rfl, by decide +kernel, rfl, by decide +kernel, by decide +kernel⟩
def sp_power_mod (K : PySem.W.Frag) : Sp := fun vs H Q _ => ∃ (p r : Addr) (a e b : Nat), vs = [.ref p, .int e, .ref r] ∧ PolyAt K H p a ∧ PolyAt K H r b ∧ blen a ≤ 5000 ∧ blen b ≤ 5000 ∧ b ≠ 0 ∧
  ∀ q H', Same H H' → H q = none → PolyAt K H' q (ppow b (pdiv 1 b).2 (pdiv a b).2 e) → Q (.ref q) H'
theorem sc_Polynomial_power_mod : FnScope ["self", "exponent", "modulus"] ["self", "exponent", "modulus"] (defScope (inClass (top 19) 9)) := ⟨rfl, rfl, rfl, by decide +kernel, rfl, by decide +kernel, by decide +kernel⟩
section
variable (T : Txt K mg) (M_Polynomial_init : FnN P w K mg base CX0 2 (He.ma K (CP K) "__init__") ["self", "word"] (sp_init K)) (C_word_in : CallF P w K mg base CX0 3 "word_in" ["value"] (sp_word_in K))
  (C_divisor_in : CallF P w K mg base CX0 4 "divisor_in" ["value"] (sp_divisor_in K)) (C_product_of : CallF P w K mg base CX0 1 "product_of" ["one", "other"] sp_product_of)
  (C_quotient_of : CallF P w K mg base CX0 3 "quotient_of" ["one", "other"] sp_quotient_of) (C_remainder_of : CallF P w K mg base CX0 3 "remainder_of" ["one", "other"] sp_remainder_of)
  (C_divisor_of : CallF P w K mg base CX0 4 "divisor_of" ["one", "other"] sp_divisor_of) (C_power_of : CallF P w K mg base CX0 4 "power_of" ["word", "exponent", "modulus"] sp_power_of)
  (C_is_natural : CallF P w K mg base CX0 1 "is_natural" ["value"] sp_is_natural)
include T M_Polynomial_init C_word_in
theorem ok_add : FnN P w K mg base CX0 5 (He.ma K (CP K) "__add__") ["self", "other"] (sp_bin K small (· ^^^ ·)) := by
  refine fnN_of T.d_Polynomial_add sc_Polynomial_add (fun _ _ _ _ _ _ us hl => match us, hl with | [_, _], _ => rfl) (fun vs H Q E h => ?_) (fun cdv A outer s H vs Q E hr h => ?_)
  · obtain ⟨p, r, a, b, rfl, _⟩ := h
    rfl
  · obtain ⟨p, r, a, b, rfl, hp, hr2, c, q⟩ := h
    obtain ⟨dx, ep⟩ := id hp
    refine ⟨_, (pss_one (ps_ret (pe_poly T M_Polynomial_init (hr.mono (by decide)) (by rfl) (pa_cons (pe_op op_bxor (pe_fld (pv 0) rfl) (pe_f C_word_in (hr.mono (by decide)) (by rfl) pass0 (pa_cons (pv 1) pa_nil))) pa_nil)))), ?_⟩
    exact ⟨_, rfl, p, _, dx, _, _, rfl, ep, T.o_Polynomial.cls, T.n_Polynomial_own_word, look_word a, _, rfl, r, b, rfl, hr2, a, b, rfl, rfl, _, rfl, q⟩
include C_product_of in
theorem ok_mul : FnN P w K mg base CX0 5 (He.ma K (CP K) "__mul__") ["self", "other"] (sp_bin K small pmul) := by
  refine fnN_of T.d_Polynomial_mul sc_Polynomial_mul (fun _ _ _ _ _ _ us hl => match us, hl with | [_, _], _ => rfl) (fun vs H Q E h => ?_) (fun cdv A outer s H vs Q E hr h => ?_)
  · obtain ⟨p, r, a, b, rfl, _⟩ := h
    rfl
  · obtain ⟨p, r, a, b, rfl, hp, hr2, c, q⟩ := h
    obtain ⟨dx, ep⟩ := id hp
    refine ⟨_, (pss_one (ps_ret (pe_poly T M_Polynomial_init (hr.mono (by decide)) (by rfl) (pa_cons (pe_f C_product_of (hr.mono (by decide)) (by rfl) pass0 (pa_cons (pe_fld (pv 0) rfl) (pa_cons (pe_f C_word_in (hr.mono (by decide)) (by rfl) pass0 (pa_cons (pv 1) pa_nil)) pa_nil))) pa_nil)))), ?_⟩
    exact ⟨_, rfl, p, _, dx, _, _, rfl, ep, T.o_Polynomial.cls, T.n_Polynomial_own_word, look_word a, _, rfl, r, b, rfl, hr2, a, b, rfl, by have := c.1; have := c.2; omega, _, rfl, q⟩
include C_quotient_of C_divisor_in in
theorem ok_floordiv : FnN P w K mg base CX0 6 (He.ma K (CP K) "__floordiv__") ["self", "other"] (sp_bin K divs fun a b => (pdiv a b).1) := by
  refine fnN_of T.d_Polynomial_floordiv sc_Polynomial_floordiv (fun _ _ _ _ _ _ us hl => match us, hl with | [_, _], _ => rfl) (fun vs H Q E h => ?_) (fun cdv A outer s H vs Q E hr h => ?_)
  · obtain ⟨p, r, a, b, rfl, _⟩ := h
    rfl
  · obtain ⟨p, r, a, b, rfl, hp, hr2, c, q⟩ := h
    obtain ⟨dx, ep⟩ := id hp
    refine ⟨_, (pss_one (ps_ret (pe_poly T M_Polynomial_init (hr.mono (by decide)) (by rfl) (pa_cons (pe_f C_quotient_of (hr.mono (by decide)) (by rfl) pass0 (pa_cons (pe_fld (pv 0) rfl) (pa_cons (pe_f C_divisor_in (hr.mono (by decide)) (by rfl) pass0 (pa_cons (pv 1) pa_nil)) pa_nil))) pa_nil)))), ?_⟩
    refine ⟨_, rfl, p, _, dx, _, _, rfl, ep, T.o_Polynomial.cls, T.n_Polynomial_own_word, look_word a, _, rfl, r, b, rfl, hr2, c.2.2, a, b, rfl, c.2.2, by have := c.1; have := c.2.1; omega, fun H1 s1 => ⟨_, rfl, fun x H' s2 n2 hx => ?_⟩⟩
    exact q x H' (s1.trans s2) (s1.free n2) hx
include C_remainder_of C_divisor_in in
theorem ok_mod : FnN P w K mg base CX0 6 (He.ma K (CP K) "__mod__") ["self", "other"] (sp_bin K divs fun a b => (pdiv a b).2) := by
  refine fnN_of T.d_Polynomial_mod sc_Polynomial_mod (fun _ _ _ _ _ _ us hl => match us, hl with | [_, _], _ => rfl) (fun vs H Q E h => ?_) (fun cdv A outer s H vs Q E hr h => ?_)
  · obtain ⟨p, r, a, b, rfl, _⟩ := h
    rfl
  · obtain ⟨p, r, a, b, rfl, hp, hr2, c, q⟩ := h
    obtain ⟨dx, ep⟩ := id hp
    refine ⟨_, (pss_one (ps_ret (pe_poly T M_Polynomial_init (hr.mono (by decide)) (by rfl) (pa_cons (pe_f C_remainder_of (hr.mono (by decide)) (by rfl) pass0 (pa_cons (pe_fld (pv 0) rfl) (pa_cons (pe_f C_divisor_in (hr.mono (by decide)) (by rfl) pass0 (pa_cons (pv 1) pa_nil)) pa_nil))) pa_nil)))), ?_⟩
    refine ⟨_, rfl, p, _, dx, _, _, rfl, ep, T.o_Polynomial.cls, T.n_Polynomial_own_word, look_word a, _, rfl, r, b, rfl, hr2, c.2.2, a, b, rfl, c.2.2, by have := c.1; have := c.2.1; omega, fun H1 s1 => ⟨_, rfl, fun x H' s2 n2 hx => ?_⟩⟩
    exact q x H' (s1.trans s2) (s1.free n2) hx
include C_divisor_of in
theorem ok_gcd : FnN P w K mg base CX0 5 (He.ma K (CP K) "gcd") ["self", "other"] (sp_bin K small pgcd) := by
  refine fnN_of T.d_Polynomial_gcd sc_Polynomial_gcd (fun _ _ _ _ _ _ us hl => match us, hl with | [_, _], _ => rfl) (fun vs H Q E h => ?_) (fun cdv A outer s H vs Q E hr h => ?_)
  · obtain ⟨p, r, a, b, rfl, _⟩ := h
    rfl
  · obtain ⟨p, r, a, b, rfl, hp, hr2, c, q⟩ := h
    obtain ⟨dx, ep⟩ := id hp
    refine ⟨_, (pss_one (ps_ret (pe_poly T M_Polynomial_init (hr.mono (by decide)) (by rfl) (pa_cons (pe_f C_divisor_of (hr.mono (by decide)) (by rfl) pass0 (pa_cons (pe_fld (pv 0) rfl) (pa_cons (pe_f C_word_in (hr.mono (by decide)) (by rfl) pass0 (pa_cons (pv 1) pa_nil)) pa_nil))) pa_nil)))), ?_⟩
    refine ⟨_, rfl, p, _, dx, _, _, rfl, ep, T.o_Polynomial.cls, T.n_Polynomial_own_word, look_word a, _, rfl, r, b, rfl, hr2, a, b, rfl, by have := c.1; omega, by have := c.2; omega, fun H1 s1 => ⟨_, rfl, fun x H' s2 n2 hx => ?_⟩⟩
    exact q x H' (s1.trans s2) (s1.free n2) hx
include C_power_of C_divisor_in C_is_natural in
theorem ok_power_mod : FnN P w K mg base CX0 6 (He.ma K (CP K) "power_mod") ["self", "exponent", "modulus"] (sp_power_mod K) := by
  refine fnN_of T.d_Polynomial_power_mod sc_Polynomial_power_mod (fun _ _ _ _ _ _ us hl => match us, hl with | [_, _, _], _ => rfl) (fun vs H Q E h => ?_) (fun cdv A outer s H vs Q E hr h => ?_)
  · obtain ⟨p, r, a, e, b, rfl, _⟩ := h
    rfl
  · obtain ⟨p, r, a, e, b, rfl, hp, hr2, c1, c2, c3, q⟩ := h
    obtain ⟨dx, ep⟩ := id hp
    refine ⟨_, (pss_cons (ps_if (pt_not (pt_val (pe_f C_is_natural (hr.mono (by decide)) (by rfl) pass0 (pa_cons (pv 1) pa_nil))))
          (pss_one ps_never)
          pss_nil)
      (pss_one (ps_ret (pe_poly T M_Polynomial_init (hr.mono (by decide)) (by rfl) (pa_cons (pe_f C_power_of (hr.mono (by decide)) (by rfl) pass0 (pa_cons (pe_fld (pv 0) rfl) (pa_cons (pv 1) (pa_cons (pe_f C_divisor_in (hr.mono (by decide)) (by rfl) pass0 (pa_cons (pv 2) pa_nil)) pa_nil)))) pa_nil))))), ?_⟩
    refine ⟨_, rfl, e, rfl, true, rfl, iteF ?_⟩
    refine ⟨_, rfl, p, _, dx, _, _, rfl, ep, T.o_Polynomial.cls, T.n_Polynomial_own_word, look_word a, _, rfl, _, rfl, r, b, rfl, hr2, c3, a, e, b, rfl, c3, c1, c2, fun H1 s1 => ⟨_, rfl, fun x H' s2 n2 hx => ?_⟩⟩
    exact q x H' (s1.trans s2) (s1.free n2) hx
end
/-- == : another Polynomial, or a value of another kind -/
def sp_eq (K : PySem.W.Frag) : Sp := fun vs H Q _ => ∃ (p : Addr) (a : Nat) (v : V), vs = [.ref p, v] ∧ PolyAt K H p a ∧
  ((∃ (r : Addr) (b : Nat), v = .ref r ∧ PolyAt K H r b ∧ Q (.bl (decide (a = b))) H) ∨ (∃ t, TyX K H v t ∧ PySem.W.kitOne K t (.ref (CP K)) = some false ∧ Q (.bl false) H))
theorem sc_Polynomial_eq : FnScope ["self", "other"] ["self", "other"] (defScope (inClass (top 19) 10)) := ⟨rfl, rfl, rfl, by decide +kernel, rfl, by decide +kernel, by decide +kernel⟩
theorem ok_eq (T : Txt K mg) (M_Polynomial_word : FnN P w K mg base CX0 1 (pgA K (CP K) "word") ["self"] (sp_word K)) : FnN P w K mg base CX0 3 (He.ma K (CP K) "__eq__") ["self", "other"] (sp_eq K) := by
  refine fnN_of T.d_Polynomial_eq sc_Polynomial_eq (fun _ _ _ _ _ _ us hl => match us, hl with | [_, _], _ => rfl) (fun vs H Q E h => ?_) (fun cdv A outer s H vs Q E hr h => ?_)
  · obtain ⟨p, a, v, rfl, _⟩ := h
    rfl
  · obtain ⟨p, a, v, rfl, ⟨dx, ep⟩, h⟩ := h
    refine ⟨_, (pss_one (ps_ret (pe_and (pe_callB call_isi (by rfl) T.b_isinstance bb_isinstance (pa_cons (pv 1) (pa_cons (pe_gRef (by rfl) T.k_Polynomial) pa_nil))) (pe_one (pe_cmpR op_eq (pe_fld (pv 0) rfl) (pe_prp T.o_Polynomial (pv 1) T.p_Polynomial_word M_Polynomial_word (hr.mono (by decide))) (nomark _)))))), ?_⟩
    rcases h with ⟨r, b, rfl, hr2, q⟩ | ⟨t, ty, e, q⟩
    · obtain ⟨dy, er⟩ := id hr2
      refine ⟨_, rfl, _, .ref (CP K), _, _, true, rfl, .own _, T.o_Polynomial.ty er, T.o_Polynomial.self, true, rfl, iteT ?_⟩
      refine ⟨_, rfl, p, _, dx, _, _, rfl, ep, T.o_Polynomial.cls, T.n_Polynomial_own_word, look_word a, _, rfl, r, dy, _, rfl, er, r, b, rfl, hr2, rfl, ?_⟩
      have ee : decide (V.int (a : Int) = V.int (b : Int)) = decide (a = b) := decide_eq_decide.mpr ⟨fun z => by
        have := V.int.inj z
        omega, fun z => by rw [z]⟩
      rw [ee]
      exact q
    · exact ⟨_, rfl, _, .ref (CP K), t, _, false, rfl, .own _, ty, e, false, rfl, iteF q⟩
def sp_str (K : PySem.W.Frag) : Sp := fun vs H Q _ => ∃ (p : Addr) (n : Nat), vs = [.ref p] ∧ PolyAt K H p n ∧ blen n ≤ 1000 ∧ ∀ H', Same H H' → Q (.str (polyT n)) H'
theorem sc_Polynomial_str : FnScope ["self"] ["self"] (defScope (inClass (top 19) 11)) := ⟨rfl, rfl, rfl, by decide +kernel, rfl, by decide +kernel, by decide +kernel⟩
theorem ok_str (T : Txt K mg) (C_text_of : CallF P w K mg base CX0 2 "text_of" ["word"] sp_text_of) : FnN P w K mg base CX0 3 (He.ma K (CP K) "__str__") ["self"] (sp_str K) := by
  refine fnN_of T.d_Polynomial_str sc_Polynomial_str (fun _ _ _ _ _ _ us hl => match us, hl with | [_], _ => rfl) (fun vs H Q E h => ?_) (fun cdv A outer s H vs Q E hr h => ?_)
  · obtain ⟨p, n, rfl, _⟩ := h
    rfl
  · obtain ⟨p, n, rfl, ⟨dx, ep⟩, hn, q⟩ := h
    refine ⟨_, (pss_one (ps_ret (pe_callTy SkE.call_str_str (by rfl) T.b_str bt_str (pa_cons (pe_f C_text_of (hr.mono (by decide)) (by rfl) pass0 (pa_cons (pe_fld (pv 0) rfl) pa_nil)) pa_nil)))), ?_⟩
    exact ⟨_, rfl, p, _, dx, _, _, rfl, ep, T.o_Polynomial.cls, T.n_Polynomial_own_word, look_word n, n, rfl, hn, fun H1 s1 => ⟨_, rfl, q H1 s1⟩⟩
/-- the text of repr -/
def reprP (n : Nat) : Str := ((Str.empty ++ ("Polynomial(" : Str)) ++ polyT n) ++ (")" : Str)
theorem polyT_len {n : Nat} (h : blen n ≤ 1000) : (polyT n).length ≤ 3000000 := by
  unfold polyT
  split
  · decide +kernel
  · have h1 := terms_size h
    have h2 := StrLaws.join_length_le (" + " : Str) ((expsN n).map termT)
    rw [← TL.join_eq] at h2
    have h3 := exps_len n
    have h4 : (((expsN n).map termT).map (·.length)).sum ≤ (((expsN n).map termT).map (·.length)).length * 1924 := by
      refine sum_le fun x hx => ?_
      obtain ⟨t, ht, rfl⟩ := List.mem_map.mp hx
      obtain ⟨e, he, rfl⟩ := List.mem_map.mp ht
      have := exps_lt he
      exact termT_len (Nat.lt_of_lt_of_le (show e < 1000 by omega) (by decide))
    have h5 : (" + " : Str).length = 3 := by decide +kernel
    rw [List.length_map, List.length_map] at h4
    rw [List.length_map, h5] at h2
    omega
def sp_repr (K : PySem.W.Frag) : Sp := fun vs H Q _ => ∃ (p : Addr) (n : Nat), vs = [.ref p] ∧ PolyAt K H p n ∧ blen n ≤ 1000 ∧ ∀ H', Same H H' → Q (.str (reprP n)) H'
theorem sc_Polynomial_repr : FnScope ["self"] ["self"] (defScope (inClass (top 19) 12)) := ⟨rfl, rfl, rfl, by decide +kernel, rfl, by decide +kernel, by decide +kernel⟩
theorem ok_repr (T : Txt K mg) (C_text_of : CallF P w K mg base CX0 2 "text_of" ["word"] sp_text_of) : FnN P w K mg base CX0 3 (He.ma K (CP K) "__repr__") ["self"] (sp_repr K) := by
  refine fnN_of T.d_Polynomial_repr sc_Polynomial_repr (fun _ _ _ _ _ _ us hl => match us, hl with | [_], _ => rfl) (fun vs H Q E h => ?_) (fun cdv A outer s H vs Q E hr h => ?_)
  · obtain ⟨p, n, rfl, _⟩ := h
    rfl
  · obtain ⟨p, n, rfl, ⟨dx, ep⟩, hn, q⟩ := h
    refine ⟨_, (pss_one (ps_ret (pe_joined (PJ.cons pe_str (PJ.cons (pe_fmt (pe_f C_text_of (hr.mono (by decide)) (by rfl) pass0 (pa_cons (pe_fld (pv 0) rfl) pa_nil))) (PJ.cons pe_str PJ.nil)))))), ?_⟩
    have esz : sizeLine = 16777216 := by decide
    have hl := polyT_len hn
    have l1 : (Str.empty ++ ("Polynomial(" : Str)).length = 11 := by decide +kernel
    have l2 : (")" : Str).length = 1 := by decide +kernel
    refine ⟨_, rfl, by rw [l1, esz]; decide, _, rfl, p, _, dx, _, _, rfl, ep, T.o_Polynomial.cls, T.n_Polynomial_own_word, look_word n, n, rfl, hn, fun H1 s1 => .inl ⟨_, rfl, by omega, _, rfl, ?_, _, rfl, ?_, ?_⟩⟩
    · rw [Str.length_append, l1]
      omega
    · rw [Str.length_append, Str.length_append, l1, l2]
      omega
    · exact q H1 s1
end
end K61

set_option maxHeartbeats 4000000
namespace K61
open PySem PySem.Spec PyProof.Rows L2 Bx
theorem op_eqNil {X : Cx} (hu : X.A.units + 64 < cLine) : OpR X (compareOp .Eq) (fun x y H Q => ∃ a xs b, x = .ref a ∧ y = .ref b ∧ SqL X.K H a xs ∧ SqL X.K H b [] ∧ (∀ v ∈ xs, okV v) ∧ Q (.bl xs.isEmpty) H) := by
  intro pins s σ H x y v u Q I r1 r2 h
  obtain ⟨a, xs, b, rfl, rfl, hA, hB, ok, q⟩ := h
  obtain ⟨b1, b2, b3, b4, b5⟩ := showAll_ok ok
  refine op_eqD hu pins s σ H _ _ v u Q I r1 r2 ⟨.list (xs.map dOf), .list [], .lst hA (dpAll_ok ok), .lst hB .nil, ?_, by decide, ?_⟩
  · unfold SeqAt.shaped
    have c : (PyData.list (xs.map dOf)).canLay0 = true := canLay_ok ok
    rw [c, Bool.true_and]
    refine decide_eq_true ?_
    show PyData.depthAll (xs.map dOf) + 1 ≤ 64
    omega
  · cases xs with
    | nil => exact q
    | cons x r => exact q
/-! ### rows -/
theorem ok_bits {fs : List Nat} (h : ∀ b ∈ fs, b < 2) : ∀ v ∈ nats fs, okV v := ok_nats fun k hk => lt200' (Nat.lt_trans (h k hk) (by decide))
theorem concat_last {fs : List Nat} (h : fs ≠ []) : ∃ gs b, fs = gs ++ [b] := by
  rcases List.eq_nil_or_concat fs with e | ⟨gs, b, e⟩
  · exact absurd e h
  · exact ⟨gs, b, by rw [e, List.concat_eq_append]⟩
theorem numB_snoc0 (gs : List Nat) : numB (gs ++ [0]) = numB gs := by
  rw [numB_append]
  simp [numB]
section
variable {P : Program} {w : World} {K : PySem.W.Frag} {mg : Str → Option Value} {base : Heap}
theorem sc_law_pot : FnScope ["_law_script", "_law_k", "_law_cell"] ["_law_script", "_law_k"] (defScope (top 23)) := ⟨rfl, rfl, rfl, by decide +kernel, rfl, by decide +kernel, by decide +kernel⟩
theorem ok_pot (T : Txt K mg) : CallF P w K mg base CX0 1 "_law_pot" ["_law_script", "_law_k"] (sp_pot K) := by
  refine callF_of T.d_law_pot sc_law_pot (fun _ _ _ _ _ _ us hl => match us, hl with | [_, _], _ => rfl) (fun vs H Q E h => ?_) (fun cdv A outer s H vs Q E hr h => ?_)
  · obtain ⟨a, ns, k, rfl, _⟩ := h
    rfl
  · obtain ⟨a, ns, k, rfl, hS, hk, q⟩ := h
    refine ⟨_, (pss_cons (ps_set (i := 2) sc_law_pot.nd rfl (.inl rfl) (pe_ifExp (pt_cmpR op_lt (pv 1) (pe_callB call_len_seq (by rfl) T.b_len bb_len (pa_cons (pv 0) pa_nil)) (nomark _)) (pe_callB call_abs (by rfl) T.b_abs bb_abs (pa_cons (pe_ix ix_list (pv 0) (pv 1) (fun _ _ => rfl)) pa_nil)) pe_int))
      (pss_one (ps_ret (pe_lst (pa_cons (pe_callB (call_max2 rfl) (by rfl) T.b_max bb_max (pa_cons pe_int (pa_cons (pe_op op_sub (pv 2) (pe_op op_pow pe_int pe_int)) pa_nil))) (pa_cons (pe_op op_mod (pe_callTy call_int1 (by rfl) T.b_int bt_int (pa_cons (pe_op op_add (pe_op op_add (pe_op op_mul (pe_op op_mod (pe_callTy call_int1 (by rfl) T.b_int bt_int (pa_cons (pv 2) pa_nil)) pe_int) pe_int) (pe_op op_mul pe_int (pv 1))) pe_int) pa_nil)) pe_int) pa_nil)))))), ?_⟩
    have rest : ∀ c : Int, 0 ≤ c → ∀ p, H p = none → PotAt (upd H p (.lst [.int (if c - 1000000000000000000 > 0 then c - 1000000000000000000 else 0), .int ((c % 2147483629 * 48271 + 60029 * k + 31) % 2147483647)])) p := by
      intro c hc p hp
      refine pot_new ?_ (Int.emod_nonneg _ (by decide)) (Int.emod_lt_of_pos _ (by decide))
      split <;> omega
    have mb : ∀ c : Int, 0 ≤ c % 2147483629 ∧ c % 2147483629 < 2147483629 := fun c => ⟨Int.emod_nonneg _ (by decide), Int.emod_lt_of_pos _ (by decide)⟩
    refine ⟨_, rfl, _, rfl, a, _, rfl, .inl hS, _, _, rfl, rfl, _, rfl, ite2 (fun e => ?_) (fun e => ?_)⟩
    · have hlt : k < ns.length := by
        have h1 := of_decide_eq_true e
        rw [List.length_map] at h1
        omega
      have g : (ns.map V.int)[k]? = some (.int ns[k]) := by
        rw [List.getElem?_map, List.getElem?_eq_getElem hlt]
        rfl
      refine ⟨_, rfl, _, rfl, a, _, k, _, rfl, rfl, hS, atI_nat (j := k) g, _, rfl, ?_⟩
      have hc : 0 ≤ (if ns[k] < 0 then -ns[k] else ns[k]) := by split <;> omega
      generalize (if ns[k] < 0 then -ns[k] else ns[k]) = c at hc ⊢
      refine ⟨_, rfl, 10, 18, rfl, rfl, ⟨by decide, by decide, by decide⟩, _, _, rfl, rfl, _, _, rfl, ?_⟩
      refine ⟨_, rfl, .inl ⟨_, rfl, _, _, rfl, rfl, (by show (0 : Int) < 2147483629; decide), _, _, rfl, rfl, .inr ⟨by decide, by decide⟩, _, rfl, _, _, rfl, rfl, .inl ⟨by decide, by decide⟩, _, _, rfl, rfl, _, _, rfl, rfl, .inl ⟨_, rfl, _, _, rfl, rfl, (by show (0 : Int) < 2147483647; decide), ?_⟩⟩⟩
      exact ⟨by show 2 ≤ sizeLine; decide, fun p hp => q p _ (same_upd hp) hp (rest c hc p hp)⟩
    · have hc : (0 : Int) ≤ 0 := Int.le_refl 0
      refine ⟨_, rfl, 10, 18, rfl, rfl, ⟨by decide, by decide, by decide⟩, _, _, rfl, rfl, _, _, rfl, ?_⟩
      refine ⟨_, rfl, .inl ⟨_, rfl, _, _, rfl, rfl, (by show (0 : Int) < 2147483629; decide), _, _, rfl, rfl, .inr ⟨by decide, by decide⟩, _, rfl, _, _, rfl, rfl, .inl ⟨by decide, by decide⟩, _, _, rfl, rfl, _, _, rfl, rfl, .inl ⟨_, rfl, _, _, rfl, rfl, (by show (0 : Int) < 2147483647; decide), ?_⟩⟩⟩
      exact ⟨by show 2 ≤ sizeLine; decide, fun p hp => q p _ (same_upd hp) hp (rest 0 hc p hp)⟩
theorem sc_law_draw : FnScope ["_law_pot_here", "_law_many", "_law_digit"] ["_law_pot_here", "_law_many"] (defScope (top 24)) := ⟨rfl, rfl, rfl, by decide +kernel, rfl, by decide +kernel, by decide +kernel⟩
theorem ok_draw (T : Txt K mg) : CallF P w K mg base CX0 1 "_law_draw" ["_law_pot_here", "_law_many"] sp_draw := by
  refine callF_of T.d_law_draw sc_law_draw (fun _ _ _ _ _ _ us hl => match us, hl with | [_, _], _ => rfl) (fun vs H Q E h => ?_) (fun cdv A outer s H vs Q E hr h => ?_)
  · obtain ⟨p, m, rfl, _⟩ := h
    rfl
  · obtain ⟨p, m, rfl, ⟨x, y, hp, hy⟩, m0, m1, q⟩ := h
    refine ⟨_, (pss_cons (ps_if (pt_cmpR op_gt (pe_ix ix_list (pv 0) pe_int (fun _ _ => rfl)) pe_int (nomark _))
          (pss_cons (ps_asg (pe_callB call_divmodW (by rfl) T.b_divmod bb_divmod (pa_cons (pe_ix ix_list (pv 0) pe_int (fun _ _ => rfl)) (pa_cons (pv 1) pa_nil))) (pg_tup (by rfl) (pgs_cons (pg_sub (pv 0) pe_int set_list) (pgs_cons (pg_name (i := 2) sc_law_draw.nd rfl (.inl rfl)) pgs_nil))))
          (pss_one (ps_ret (pv 2))))
          pss_nil)
      (pss_cons (ps_asg (pe_op op_mod (pe_callTy call_int1 (by rfl) T.b_int bt_int (pa_cons (pe_op op_add (pe_op op_mul (pe_ix ix_list (pv 0) pe_int (fun _ _ => rfl)) pe_int) pe_int) pa_nil)) pe_int) (pg_sub (pv 0) pe_int set_list))
      (pss_one (ps_ret (pe_op op_mod (pe_callTy call_int1 (by rfl) T.b_int bt_int (pa_cons (pe_op op_fdiv (pe_op op_mod (pe_callTy call_int1 (by rfl) T.b_int bt_int (pa_cons (pe_op op_mul (pe_ix ix_list (pv 0) pe_int (fun _ _ => rfl)) (pe_ix ix_list (pv 0) pe_int (fun _ _ => rfl))) pa_nil)) pe_int) pe_int) pa_nil)) (pv 1)))))), ?_⟩
    have L0 : SqL K H p [.int x, .int y] := .inl (.inl hp)
    refine ⟨_, rfl, p, _, 0, .int x, rfl, rfl, L0, atI_nat (j := 0) rfl, _, _, rfl, rfl, _, rfl, ite2 (fun e => ?_) (fun e => ?_)⟩
    · refine ⟨_, rfl, p, _, 0, .int x, rfl, rfl, L0, atI_nat (j := 0) rfl, _, rfl, x, m, rfl, ⟨by omega, no_pylong (by omega) (by omega)⟩, fun t ht => ?_⟩
      have hp2 : (upd H t (.tup [.int ((x : Int) / m), .int ((x : Int) % m)])) p = some (.lst [.int x, .int y]) := by
        rw [upd_ne (ne_of_none hp ht)]
        exact hp
      refine ⟨t, _, rfl, .inl (.inl upd_same), rfl, _, _, rfl, _, rfl, p, _, 0, 0, rfl, rfl, hp2, rfl, _, _, rfl, rfl, _, rfl, ?_⟩
      have e1 : (x : Int) % m = ((x % m : Nat) : Int) := (Int.natCast_emod x m).symm
      have e2 : (x : Int) / m = ((x / m : Nat) : Int) := (Int.natCast_ediv x m).symm
      rw [e1, e2]
      refine q (x % m) _ (Nat.mod_lt _ m0) ⟨x / m, y, upd_same, hy⟩ ?_
      exact (same_keep (same_upd ht)).trans keep_upd
    · have hyb : (y : Int) < 2147483647 := by omega
      refine ⟨_, rfl, p, _, 1, .int y, rfl, rfl, L0, atI_nat (j := 1) rfl, _, _, rfl, rfl, .inr ⟨by decide, by decide⟩, _, _, rfl, rfl, .inl ⟨_, rfl, _, _, rfl, rfl, (by show (0 : Int) < 2147483629; decide), ?_⟩⟩
      refine ⟨_, rfl, p, _, 1, 1, rfl, rfl, hp, rfl, ?_⟩
      have z0 : 0 ≤ ((y : Int) * 39373 + 12227) % 2147483629 := Int.emod_nonneg _ (by decide)
      have z1 : ((y : Int) * 39373 + 12227) % 2147483629 < 2147483629 := Int.emod_lt_of_pos _ (by decide)
      obtain ⟨z, ez⟩ : ∃ z : Int, ((y : Int) * 39373 + 12227) % 2147483629 = z := ⟨_, rfl⟩
      dsimp only
      rw [ez] at z0 z1 ⊢
      have L1 : SqL K (upd H p (.lst [.int x, .int z])) p [.int x, .int z] := .inl (.inl upd_same)
      refine ⟨_, rfl, p, _, 1, .int z, rfl, rfl, L1, atI_nat (j := 1) rfl, _, rfl, p, _, 1, .int z, rfl, rfl, L1, atI_nat (j := 1) rfl, z, z, rfl, rfl, .inl ⟨by omega, by omega⟩, .inl ⟨_, rfl, _, _, rfl, rfl, (by show (0 : Int) < 2147483563; decide), _, _, rfl, rfl, ⟨by decide, by decide⟩, .inl ⟨_, rfl, _, rfl, _, _, rfl, rfl, (by omega), ?_⟩⟩⟩
      have d0 : 0 ≤ (z * z % 2147483563 / 13) % (m : Int) := Int.emod_nonneg _ (by omega)
      have d1 : (z * z % 2147483563 / 13) % (m : Int) < m := Int.emod_lt_of_pos _ (by omega)
      have q2 := q ((z * z % 2147483563 / 13) % (m : Int)).toNat (upd H p (.lst [.int x, .int z])) (by omega) (by
        refine ⟨x, z.toNat, ?_, by omega⟩
        rw [upd_same, Int.toNat_of_nonneg z0]) keep_upd
      rw [Int.toNat_of_nonneg d0] at q2
      exact q2
theorem sc_law_pick : FnScope ["_law_pot_here", "_law_some"] ["_law_pot_here", "_law_some"] (defScope (top 25)) := ⟨rfl, rfl, rfl, by decide +kernel, rfl, by decide +kernel, by decide +kernel⟩
theorem ok_pick (T : Txt K mg) (C_law_draw : CallF P w K mg base CX0 1 "_law_draw" ["_law_pot_here", "_law_many"] sp_draw) : CallF P w K mg base CX0 2 "_law_pick" ["_law_pot_here", "_law_some"] (sp_pick K) := by
  refine callF_of T.d_law_pick sc_law_pick (fun _ _ _ _ _ _ us hl => match us, hl with | [_, _], _ => rfl) (fun vs H Q E h => ?_) (fun cdv A outer s H vs Q E hr h => ?_)
  · obtain ⟨p, a, xs, rfl, _⟩ := h
    rfl
  · obtain ⟨p, a, xs, rfl, hp, hS, ne, l0, l1, q⟩ := h
    refine ⟨_, (pss_one (ps_ret (pe_ix ix_list (pv 1) (pe_f C_law_draw (hr.mono (by decide)) (by rfl) pass0 (pa_cons (pv 0) (pa_cons (pe_callB call_len_seq (by rfl) T.b_len bb_len (pa_cons (pv 1) pa_nil)) pa_nil))) (fun _ _ => rfl)))), ?_⟩
    refine ⟨_, rfl, _, rfl, _, rfl, a, _, rfl, .inl hS, p, xs.length, rfl, hp, l0, by omega, fun d H' hd hp' kp => ?_⟩
    exact ⟨a, xs, d, _, rfl, rfl, kp.seq hS ne, atI_nat (j := d) (List.getElem?_eq_getElem hd), q _ H' (List.getElem_mem hd) hp' kp⟩

def sp_bare (K : PySem.W.Frag) : Sp := fun vs H Q _ => ∃ (a : Addr) (fs : List Nat), vs = [.ref a] ∧ SqL K H a (nats fs) ∧ (∀ b ∈ fs, b < 2) ∧
  ∀ q H', Same H H' → H q = none → H' q = some (.lst (nats (rowOf (numB fs)))) → Q (.ref q) H'
theorem sc_law_bare : FnScope ["_law_row", "_law_found"] ["_law_row"] (defScope (top 26)) := ⟨rfl, rfl, rfl, by decide +kernel, rfl, by decide +kernel, by decide +kernel⟩
theorem ok_bare (T : Txt K mg) : CallF P w K mg base CX0 1 "_law_bare" ["_law_row"] (sp_bare K) := by
  refine callF_of T.d_law_bare sc_law_bare (fun _ _ _ _ _ _ us hl => match us, hl with | [_], _ => rfl) (fun vs H Q E h => ?_) (fun cdv A outer s H vs Q E hr h => ?_)
  · obtain ⟨a, fs, rfl, _⟩ := h
    rfl
  · obtain ⟨a, fs, rfl, hS, fb, q⟩ := h
    refine ⟨_, (pss_cons (ps_set (i := 1) sc_law_bare.nd rfl (.inl rfl) (pe_callTy call_list_of (by rfl) T.b_list bt_list (pa_cons (pv 0) pa_nil)))
      (pss_cons (ps_while PassesOwn.never (PW.pt (pw_and (pt_cmpR (op_neNil hr.units) (pv 1) (pe_lst pa_nil) (nomark _)) (pw_and1 (pt_cmpR op_eq (pe_ix ix_list (pv 1) (pe_un un_neg pe_int) (fun _ _ => rfl)) pe_int (nomark _)))))
          (pss_one (ps_expr (pe_bm0 PySem.F.plainAttrs_list PySem.F.slot_list_pop PySem.F.type_list_pop mt_pop (pv 1)))))
      (pss_one (ps_ret (pv 1))))), ?_⟩
    refine ⟨_, rfl, a, _, rfl, .inl hS, fun l nl => ?_⟩
    refine ⟨fun m σ H' => ∃ gs : List Nat, m = gs.length ∧ σ = [some (.ref a), some (.ref l)] ∧ Same H H' ∧ H' l = some (.lst (nats gs)) ∧ (∀ b ∈ gs, b < 2) ∧ numB gs = numB fs, ⟨fs.length, fs, rfl, rfl, same_upd nl, upd_same, fb, rfl⟩, fun m σ H' hW => ?_⟩
    obtain ⟨gs, rfl, rfl, sm, hl, gb, e⟩ := hW
    refine ⟨_, rfl, Nat.zero_le _, fun b nb => ?_⟩
    have s2 : Same H' (upd H' b (.lst [])) := same_upd nb
    have hl2 := s2 _ _ hl
    refine ⟨l, _, b, rfl, rfl, .inl (.inl hl2), .inl (.inl upd_same), ok_bits gb, _, rfl, ?_⟩
    have fin : (gs = [] ∨ gs.getLast? = some 1) → Q (.ref l) (upd H' b (.lst [])) := fun c => by
      refine q l _ (sm.trans s2) nl ?_
      rw [hl2, ← e, ← row_of_bare gb c]
    by_cases g0 : gs = []
    · have e1 : (!(nats gs).isEmpty) = false := by
        rw [g0]
        rfl
      rw [e1]
      exact iteF ⟨_, rfl, fin (.inl g0)⟩
    · obtain ⟨hs, z, rfl⟩ := concat_last g0
      have e1 : (!(nats (hs ++ [z])).isEmpty) = true := by
        cases hs <;> rfl
      rw [e1]
      have en : nats (hs ++ [z]) = nats hs ++ [.int (z : Int)] := by simp [nats]
      refine iteT ⟨_, rfl, 1, rfl, l, _, -1, .int z, rfl, rfl, .inl (.inl hl2), ?_, rfl, _, rfl, ?_⟩
      · rw [en]
        exact atI_last _ _
      · have z2 : z < 2 := gb z (List.mem_append_right _ (List.mem_singleton.mpr rfl))
        by_cases z0 : z = 0
        · subst z0
          refine iteT ⟨fun σ' H2 => ∃ m' : Nat, m' < (hs ++ [0]).length ∧ ∃ gs : List Nat, m' = gs.length ∧ σ' = [some (.ref a), some (.ref l)] ∧ Same H H2 ∧ H2 l = some (.lst (nats gs)) ∧ (∀ b ∈ gs, b < 2) ∧ numB gs = numB fs, fun _ _ z => z, ?_⟩
          refine ⟨_, rfl, .inl ⟨rfl, _, .inl (.inl hl2)⟩, l, _, .int ((0 : Nat) : Int), rfl, rfl, hl2, ?_, hs.length, by simp, hs, rfl, rfl, same_put (sm.trans s2) nl, ?_, fun b hb => gb b (List.mem_append_left _ hb), ?_⟩
          · rw [en]
            simp
          · rw [upd_same, en, List.dropLast_concat]
          · rw [← e, numB_snoc0]
        · have e2 : decide (V.int (z : Int) = V.int 0) = false := decide_eq_false fun y => z0 (by
            have := V.int.inj y
            omega)
          rw [e2]
          have z1 : z = 1 := by omega
          subst z1
          exact iteF ⟨_, rfl, fin (.inr (by rw [List.getLast?_concat]))⟩
def sp_list : Sp := fun vs H Q _ => ∃ (p : Addr) (m : Nat), vs = [.ref p, .int m] ∧ PotAt H p ∧ m ≤ 100 ∧
  ∀ (q : Addr) (n : Nat) H', blen n ≤ m → PotAt H' p → Keep p H H' → H q = none → H' q = some (.lst (nats (rowOf n))) → Q (.ref q) H'
theorem sc_law_list : FnScope ["_law_pot_here", "_law_most", "_law_turn"] ["_law_pot_here", "_law_most"] (defScope (top 27)) := ⟨rfl, rfl, rfl, by decide +kernel, rfl, by decide +kernel, by decide +kernel⟩
theorem ok_list (T : Txt K mg) (C_law_draw : CallF P w K mg base CX0 1 "_law_draw" ["_law_pot_here", "_law_many"] sp_draw) (C_law_bare : CallF P w K mg base CX0 1 "_law_bare" ["_law_row"] (sp_bare K)) : CallF P w K mg base CX0 2 "_law_list" ["_law_pot_here", "_law_most"] sp_list := by
  refine callF_of T.d_law_list sc_law_list (fun _ _ _ _ _ _ us hl => match us, hl with | [_, _], _ => rfl) (fun vs H Q E h => ?_) (fun cdv A outer s H vs Q E hr h => ?_)
  · obtain ⟨p, m, rfl, _⟩ := h
    rfl
  · obtain ⟨p, m, rfl, hp, hm, q⟩ := h
    refine ⟨_, (pss_one (ps_ret (pe_f C_law_bare (hr.mono (by decide)) (by rfl) pass0 (pa_cons (pe_lc (own := [("_law_turn", 2)]) (by rfl) sc_law_list.nd (pi_range1 (by rfl) T.b_range (pa_cons (pe_f C_law_draw (hr.mono (by decide)) (by rfl) pass0 (pa_cons (pv 0) (pa_cons (pe_op op_add (pv 1) pe_int) pa_nil))) pa_nil)) (blkOk_by (own := [("_law_turn", 2)]) (N := ["_law_pot_here", "_law_most", "_law_turn"]) (sc := defScope (top 27)) (by decide +kernel)) (fun _ _ _ _ _ => (pg_name (i := 2) sc_law_list.nd rfl (.inl rfl))) (fun _ _ _ _ _ => pts_nil) (fun _ _ _ _ _ => (pe_f C_law_draw (hr.mono (by decide)) (by rfl) pass0 (pa_cons (pv 0) (pa_cons pe_int pa_nil))))) pa_nil)))), ?_⟩
    refine ⟨_, rfl, _, rfl, _, _, rfl, rfl, p, m + 1, by simp, hp, by omega, by omega, fun d H1 hd p1 k1 => ⟨d, rfl, by omega, by omega, fun D nD => ?_⟩⟩
    rw [Int.toNat_natCast]
    have nD0 : H D = none := keep_free k1 p1 nD
    have nDp : D ≠ p := Ne.symm (pot_ne p1 nD)
    refine lc_range (lo := 0) (n := d) (fun i H' => PotAt H' p ∧ Keep p H H' ∧ ∃ ds : List Nat, ds.length = i ∧ (∀ b ∈ ds, b < 2) ∧ H' D = some (.lst (nats ds)))
      ⟨pot_same p1 (same_upd nD), keep_new k1 nD, [], rfl, (fun b hb => nomatch hb), upd_same⟩ ?_ ?_
    · rintro i H' hi ⟨pa, ka, ds, e1, e2, da⟩
      refine ⟨rfl, _, rfl, p, 2, rfl, pa, by decide, by decide, fun d2 H5 hd2 p5 k5 => ?_⟩
      refine ⟨_, k5 D _ da nDp, ?_, pot_put p5 nDp, keep_put (ka.trans k5) nD0, ds ++ [d2], ?_, ?_, ?_⟩
      · rw [List.length_map]
        exact small1000 (by omega)
      · rw [List.length_append, e1]
        rfl
      · intro b hb
        rcases List.mem_append.mp hb with z | z
        · exact e2 b z
        · rw [List.mem_singleton.mp z]
          exact hd2
      · rw [upd_same]
        simp [nats]
    · rintro H' ⟨pa, ka, ds, e1, e2, da⟩
      refine ⟨D, ds, rfl, .inl (.inl da), e2, fun r H2 s2 nr hr2 => ?_⟩
      have hb : blen (numB ds) ≤ m := by
        have := (blen_key _ _).mp (numB_lt ds e2)
        omega
      exact q r (numB ds) H2 hb (pot_same pa s2) (keep_same ka s2) (keep_free ka pa nr) hr2
def sp_number (K : PySem.W.Frag) : Sp := fun vs H Q _ => ∃ (a : Addr) (fs : List Nat), vs = [.ref a] ∧ SqL K H a (nats fs) ∧ Q (.int (numB fs : Nat)) H
theorem sc_law_number : FnScope ["_law_row", "_law_found", "_law_bit"] ["_law_row"] (defScope (top 28)) := ⟨rfl, rfl, rfl, by decide +kernel, rfl, by decide +kernel, by decide +kernel⟩
theorem numB_rev (fs : List Nat) (i : Nat) (h : i < fs.length) {x : Nat} (e : fs[fs.length - 1 - i]? = some x) : numB (fs.drop (fs.length - (i + 1))) = x + 2 * numB (fs.drop (fs.length - i)) := by
  have h1 : fs.length - (i + 1) < fs.length := by omega
  rw [List.drop_eq_getElem_cons h1]
  have e2 : fs[fs.length - (i + 1)] = x := by
    have e3 : fs[fs.length - (i + 1)]? = some x := by
      rw [show fs.length - (i + 1) = fs.length - 1 - i by omega]
      exact e
    rw [List.getElem?_eq_getElem h1] at e3
    exact Option.some.inj e3
  rw [e2, show fs.length - (i + 1) + 1 = fs.length - i by omega]
  rfl
theorem ok_number (T : Txt K mg) : CallF P w K mg base CX0 1 "_law_number" ["_law_row"] (sp_number K) := by
  refine callF_of T.d_law_number sc_law_number (fun _ _ _ _ _ _ us hl => match us, hl with | [_], _ => rfl) (fun vs H Q E h => ?_) (fun cdv A outer s H vs Q E hr h => ?_)
  · obtain ⟨a, fs, rfl, _⟩ := h
    rfl
  · obtain ⟨a, fs, rfl, hS, q⟩ := h
    refine ⟨_, (pss_cons (ps_set (i := 1) sc_law_number.nd rfl (.inl rfl) pe_int)
      (pss_cons (ps_for PassesOwn.never rfl (pi_reversed (by rfl) T.b_reversed (pa_cons (pv 0) pa_nil)) (pg_name (i := 2) sc_law_number.nd rfl (.inl rfl))
          (pss_one (ps_set (i := 1) sc_law_number.nd rfl (.inl rfl) (pe_op op_add (pe_op op_mul pe_int (pv 1)) (pv 2)))))
      (pss_one (ps_ret (pv 1))))), ?_⟩
    refine ⟨_, rfl, a, _, rfl, hS, for_it (walk_rev (xs := nats fs)) (fun i σ H2 => ∃ y, σ = [some (.ref a), some (.int (numB (fs.drop (fs.length - i)) : Nat)), y] ∧ H2 = H)
      ⟨none, by rw [Nat.sub_zero, List.drop_length]; rfl, rfl⟩ (fun i σ H2 _ ⟨_, _, e⟩ => by rw [e]; exact hS) ?_ ?_⟩
    · rintro i x σ H2 H3 hi ⟨y, rfl, rfl⟩ ⟨rfl, hx⟩
      rw [List.length_map] at hi hx
      obtain ⟨b, eb, rfl⟩ := nats_at hx
      refine ⟨_, rfl, 2, _, rfl, rfl, .inl ⟨by decide, by decide⟩, _, rfl, _, _, rfl, rfl, some (.int b), ?_, rfl⟩
      rw [numB_rev fs i hi eb]
      have e : ((b + 2 * numB (fs.drop (fs.length - i)) : Nat) : Int) = 2 * (numB (fs.drop (fs.length - i)) : Nat) + (b : Int) := by omega
      rw [e]
      rfl
    · rintro σ H2 ⟨y, rfl, rfl⟩
      have e : fs.drop (fs.length - (nats fs).length) = fs := by
        rw [List.length_map, Nat.sub_self]
        rfl
      rw [e]
      exact ⟨_, rfl, q⟩
end
end K61

set_option maxHeartbeats 4000000
namespace K61
open PySem PySem.Spec PyProof.Rows L2 Bx
/-! ### rows of bits as numbers -/
theorem bit_shl_testBit {m : Nat} (h : m < 2) (p i : Nat) : (m <<< p).testBit i = (decide (p = i) && decide (m = 1)) := by
  rcases (show m = 0 ∨ m = 1 by omega) with rfl | rfl
  · simp
  · rw [one_shl_testBit]
    simp
theorem mod_xor {x m : Nat} (hx : x < 2) (hm : m < 2) : (x + m) % 2 = x ^^^ m := by
  rcases (show x = 0 ∨ x = 1 by omega) with rfl | rfl <;> rcases (show m = 0 ∨ m = 1 by omega) with rfl | rfl <;> rfl
theorem xor_one {x m : Nat} (hx : x < 2) (hm : m < 2) : decide (x ^^^ m = 1) = xor (decide (x = 1)) (decide (m = 1)) := by
  rcases (show x = 0 ∨ x = 1 by omega) with rfl | rfl <;> rcases (show m = 0 ∨ m = 1 by omega) with rfl | rfl <;> rfl
theorem xor_lt {x m : Nat} (hx : x < 2) (hm : m < 2) : x ^^^ m < 2 := by
  rcases (show x = 0 ∨ x = 1 by omega) with rfl | rfl <;> rcases (show m = 0 ∨ m = 1 by omega) with rfl | rfl <;> decide
theorem numB_flip {gs : List Nat} (hg : ∀ b ∈ gs, b < 2) {p x m : Nat} (ex : gs[p]? = some x) (hm : m < 2) : numB (gs.set p (x ^^^ m)) = numB gs ^^^ m <<< p := by
  have hp : p < gs.length := (List.getElem?_eq_some_iff.mp ex).1
  have hx : x < 2 := hg x (List.mem_of_getElem? ex)
  refine Nat.eq_of_testBit_eq fun i => ?_
  rw [numB_set hg hp (xor_lt hx hm), Nat.testBit_xor, bit_shl_testBit hm]
  by_cases e : p = i
  · subst e
    rw [if_pos rfl, numB_testBit gs hg, ex, xor_one hx hm, decide_eq_true (rfl : p = p), Bool.true_and]
    simp
  · rw [if_neg e, decide_eq_false e, Bool.false_and, Bool.xor_false]
theorem numB_snoc {gs : List Nat} (hg : ∀ b ∈ gs, b < 2) {m : Nat} (hm : m < 2) : numB (gs ++ [m]) = numB gs ^^^ m <<< gs.length := by
  have e := numB_flip (gs := gs ++ [0]) (p := gs.length) (x := 0) (m := m) (fun b hb => by
    rcases List.mem_append.mp hb with z | z
    · exact hg b z
    · rw [List.mem_singleton.mp z]
      decide) (by simp) hm
  rw [Nat.zero_xor, numB_snoc0] at e
  rw [← e]
  simp
theorem bits_take {fs : List Nat} (h : ∀ b ∈ fs, b < 2) (i : Nat) : ∀ b ∈ fs.take i, b < 2 := fun b hb => h b (List.mem_of_mem_take hb)
theorem bits_snoc {fs : List Nat} {m : Nat} (h : ∀ b ∈ fs, b < 2) (hm : m < 2) : ∀ b ∈ fs ++ [m], b < 2 := fun b hb => by
  rcases List.mem_append.mp hb with z | z
  · exact h b z
  · rw [List.mem_singleton.mp z]
    exact hm
theorem numB_take {ts : List Nat} (ht : ∀ b ∈ ts, b < 2) {j m : Nat} (e : ts[j]? = some m) : numB (ts.take (j + 1)) = numB (ts.take j) ^^^ m <<< j := by
  have hj : j < ts.length := (List.getElem?_eq_some_iff.mp e).1
  have h2 : ts.take (j + 1) = ts.take j ++ [m] := by
    rw [List.take_add_one, e]
    rfl
  have hl : (ts.take j).length = j := by
    rw [List.length_take]
    omega
  rw [h2, numB_snoc (bits_take ht j) (ht m (List.mem_of_getElem? e)), hl]
theorem row_turn {gs ts : List Nat} {n k j m x : Nat} (gb : ∀ b ∈ gs, b < 2) (tb : ∀ b ∈ ts, b < 2) (eg : numB gs = n ^^^ numB (ts.take j) <<< k) (em : ts[j]? = some m) (ex : gs[k + j]? = some x) :
    numB (gs.set (k + j) (x ^^^ m)) = n ^^^ numB (ts.take (j + 1)) <<< k := by
  rw [numB_flip gb ex (tb m (List.mem_of_getElem? em)), numB_take tb em, Nat.shiftLeft_xor_distrib, ← Nat.shiftLeft_add, eg, Nat.xor_assoc, Nat.add_comm k j]
theorem numB_set1 {gs : List Nat} (hg : ∀ b ∈ gs, b < 2) {p : Nat} (hp : p < gs.length) : numB (gs.set p 1) = numB gs ||| 1 <<< p := by
  refine Nat.eq_of_testBit_eq fun i => ?_
  rw [numB_set hg hp (by decide), Nat.testBit_or, one_shl_testBit]
  by_cases e : p = i
  · subst e
    rw [if_pos rfl]
    simp
  · rw [if_neg e, decide_eq_false e, Bool.or_false]
theorem nats_snoc (ks : List Nat) (k : Nat) : nats ks ++ [.int (k : Int)] = nats (ks ++ [k]) := by simp [nats]
theorem nats_app (ks ls : List Nat) : nats ks ++ nats ls = nats (ks ++ ls) := by simp [nats]
theorem bits_app {fs gs : List Nat} (h : ∀ b ∈ fs, b < 2) (h2 : ∀ b ∈ gs, b < 2) : ∀ b ∈ fs ++ gs, b < 2 := fun b hb => by
  rcases List.mem_append.mp hb with z | z
  · exact h b z
  · exact h2 b z
theorem bits_zeros (n : Nat) : ∀ b ∈ List.replicate n 0, b < 2 := fun b hb => by
  rw [(List.mem_replicate.mp hb).2]
  decide
theorem numB_pad (fs : List Nat) (n : Nat) : numB (fs ++ List.replicate n 0) = numB fs := by
  rw [numB_append, numB_zeros]
  simp
theorem intMod {x m : Nat} (hx : x < 2) (hm : m < 2) : ((x : Int) + (m : Int)) % 2 = ((x ^^^ m : Nat) : Int) := by
  rw [← mod_xor hx hm]
  omega
theorem line5 : 5000 ≤ sizeLine := by decide
section
variable {P : Program} {w : World} {K : PySem.W.Frag} {mg : Str → Option Value} {base : Heap}
/-- a binary function on rows -/
def sp_rows (g : List Nat → List Nat → Nat) : Sp := fun vs H Q _ => ∃ (a b : Addr) (fs ts : List Nat), vs = [.ref a, .ref b] ∧ H a = some (.lst (nats fs)) ∧ H b = some (.lst (nats ts)) ∧ (∀ b ∈ fs, b < 2) ∧ (∀ b ∈ ts, b < 2) ∧ fs.length ≤ 1000 ∧ ts.length ≤ 1000 ∧
  ∀ q H', Same H H' → H q = none → H' q = some (.lst (nats (rowOf (g fs ts)))) → Q (.ref q) H'
abbrev sp_sum : Sp := sp_rows fun fs ts => numB fs ^^^ numB ts
abbrev sp_product : Sp := sp_rows fun fs ts => pmul (numB fs) (numB ts)
theorem sc_law_sum : FnScope ["_law_one", "_law_two", "_law_longer", "_law_first", "_law_second", "_law_a", "_law_b"] ["_law_one", "_law_two"] (defScope (top 29)) := ⟨rfl, rfl, rfl, by decide +kernel, rfl, by decide +kernel, by decide +kernel⟩
theorem ok_sum (T : Txt K mg) (C_law_bare : CallF P w K mg base CX0 1 "_law_bare" ["_law_row"] (sp_bare K)) : CallF P w K mg base CX0 2 "_law_sum" ["_law_one", "_law_two"] sp_sum := by
  refine callF_of T.d_law_sum sc_law_sum (fun _ _ _ _ _ _ us hl => match us, hl with | [_, _], _ => rfl) (fun vs H Q E h => ?_) (fun cdv A outer s H vs Q E hr h => ?_)
  · obtain ⟨a, b, fs, ts, rfl, _⟩ := h
    rfl
  · obtain ⟨a, b, fs, ts, rfl, hA, hB, fb, tb, lf, lt, q⟩ := h
    refine ⟨_, (pss_cons (ps_set (i := 2) sc_law_sum.nd rfl (.inl rfl) (pe_callB (call_max2 rfl) (by rfl) T.b_max bb_max (pa_cons (pe_callB call_len_seq (by rfl) T.b_len bb_len (pa_cons (pv 0) pa_nil)) (pa_cons (pe_callB call_len_seq (by rfl) T.b_len bb_len (pa_cons (pv 1) pa_nil)) pa_nil))))
      (pss_cons (ps_set (i := 3) sc_law_sum.nd rfl (.inl rfl) (pe_op op_cat (pv 0) (pe_op op_rep (pe_lst (pa_cons pe_int pa_nil)) (pe_op op_sub (pv 2) (pe_callB call_len_seq (by rfl) T.b_len bb_len (pa_cons (pv 0) pa_nil))))))
      (pss_cons (ps_set (i := 4) sc_law_sum.nd rfl (.inl rfl) (pe_op op_cat (pv 1) (pe_op op_rep (pe_lst (pa_cons pe_int pa_nil)) (pe_op op_sub (pv 2) (pe_callB call_len_seq (by rfl) T.b_len bb_len (pa_cons (pv 1) pa_nil))))))
      (pss_one (ps_ret (pe_f C_law_bare (hr.mono (by decide)) (by rfl) pass0 (pa_cons (pe_lc (own := [("_law_a", 5), ("_law_b", 6)]) (g := gTup K 2 (gCons (gName 5) (gCons (gName 6) gNil))) (by rfl) sc_law_sum.nd (pi_zip (by rfl) T.b_zip (pa_cons (pv 3) (pa_cons (pv 4) pa_nil))) (blkOk_by (own := [("_law_a", 5), ("_law_b", 6)]) (N := ["_law_one", "_law_two", "_law_longer", "_law_first", "_law_second", "_law_a", "_law_b"]) (sc := defScope (top 29)) (by decide +kernel)) (fun _ _ _ _ _ => (pg_tup (by rfl) (pgs_cons (pg_name (i := 5) sc_law_sum.nd rfl (.inl rfl)) (pgs_cons (pg_name (i := 6) sc_law_sum.nd rfl (.inl rfl)) pgs_nil)))) (fun _ _ _ _ _ => pts_nil) (fun _ _ _ _ _ => (pe_op op_mod (pe_callTy call_int1 (by rfl) T.b_int bt_int (pa_cons (pe_op op_add (pv 5) (pv 6)) pa_nil)) pe_int))) pa_nil))))))), ?_⟩
    have lf2 : (nats fs).length = fs.length := List.length_map _
    have lt2 : (nats ts).length = ts.length := List.length_map _
    refine ⟨_, rfl, a, _, rfl, .inl (.inl (.inl hA)), _, rfl, b, _, rfl, .inl (.inl (.inl hB)), _, _, rfl, ?_⟩
    have em : (if ((nats ts).length : Int) > ((nats fs).length : Int) then ((nats ts).length : Int) else ((nats fs).length : Int)) = ((max fs.length ts.length : Nat) : Int) := by
      rw [lf2, lt2]
      split <;> omega
    rw [em]
    refine ⟨_, rfl, by show 1 ≤ sizeLine; decide, fun z1 n1 => ?_⟩
    have h1A := same_upd (o := .lst [.int 0]) n1 _ _ hA
    have h1B := same_upd (o := .lst [.int 0]) n1 _ _ hB
    refine ⟨_, rfl, _, rfl, a, _, rfl, .inl (.inl (.inl h1A)), _, _, rfl, rfl, z1, _, _, rfl, rfl, upd_same, by omega, by omega, ?_, fun p2 n2 => ?_⟩
    · show 1 * _ ≤ _
      have := line5
      omega
    · have et : (((max fs.length ts.length : Nat) : Int) - ((nats fs).length : Int)).toNat = max fs.length ts.length - fs.length := by omega
      rw [et, show ([.int 0] : List V) = [.int ((0 : Nat) : Int)] from rfl, rep_nats]
      have s2 : Same H (upd (upd H z1 (.lst [.int ((0 : Nat) : Int)])) p2 (.lst (nats (List.replicate (max fs.length ts.length - fs.length) 0)))) := same_new (same_upd n1) n2
      have h2 : (upd (upd H z1 (.lst [.int ((0 : Nat) : Int)])) p2 (.lst (nats (List.replicate (max fs.length ts.length - fs.length) 0)))) p2 = _ := upd_same
      generalize upd (upd H z1 (.lst [.int ((0 : Nat) : Int)])) p2 (.lst (nats (List.replicate (max fs.length ts.length - fs.length) 0))) = H2 at s2 h2 ⊢
      refine ⟨a, p2, _, _, rfl, rfl, s2 _ _ hA, h2, ?_, fun f1 nf1 => ?_⟩
      · rw [lf2, List.length_map, List.length_replicate]
        have := line5
        omega
      rw [nats_app]
      have s3 : Same H (upd H2 f1 (.lst (nats (fs ++ List.replicate (max fs.length ts.length - fs.length) 0)))) := same_new s2 nf1
      have h3 : (upd H2 f1 (.lst (nats (fs ++ List.replicate (max fs.length ts.length - fs.length) 0)))) f1 = _ := upd_same
      generalize upd H2 f1 (.lst (nats (fs ++ List.replicate (max fs.length ts.length - fs.length) 0))) = H3 at s3 h3 ⊢
      refine ⟨_, rfl, by show 1 ≤ sizeLine; decide, fun z4 n4 => ?_⟩
      have s4 : Same H3 (upd H3 z4 (.lst [.int 0])) := same_upd n4
      refine ⟨_, rfl, _, rfl, b, _, rfl, .inl (.inl (.inl ((s3.trans s4) _ _ hB))), _, _, rfl, rfl, z4, _, _, rfl, rfl, upd_same, by omega, by omega, ?_, fun p5 n5 => ?_⟩
      · show 1 * _ ≤ _
        have := line5
        omega
      have et5 : (((max fs.length ts.length : Nat) : Int) - ((nats ts).length : Int)).toNat = max fs.length ts.length - ts.length := by omega
      rw [et5, show ([.int 0] : List V) = [.int ((0 : Nat) : Int)] from rfl, rep_nats]
      have s5 : Same H3 (upd (upd H3 z4 (.lst [.int ((0 : Nat) : Int)])) p5 (.lst (nats (List.replicate (max fs.length ts.length - ts.length) 0)))) := same_new s4 n5
      have h5 : (upd (upd H3 z4 (.lst [.int ((0 : Nat) : Int)])) p5 (.lst (nats (List.replicate (max fs.length ts.length - ts.length) 0)))) p5 = _ := upd_same
      generalize upd (upd H3 z4 (.lst [.int ((0 : Nat) : Int)])) p5 (.lst (nats (List.replicate (max fs.length ts.length - ts.length) 0))) = H5 at s5 h5 ⊢
      refine ⟨b, p5, _, _, rfl, rfl, s5 _ _ (s3 _ _ hB), h5, ?_, fun f2 nf2 => ?_⟩
      · rw [lt2, List.length_map, List.length_replicate]
        have := line5
        omega
      rw [nats_app]
      have s6 : Same H3 (upd H5 f2 (.lst (nats (ts ++ List.replicate (max fs.length ts.length - ts.length) 0)))) := same_new s5 nf2
      have h6 : (upd H5 f2 (.lst (nats (ts ++ List.replicate (max fs.length ts.length - ts.length) 0)))) f2 = _ := upd_same
      generalize upd H5 f2 (.lst (nats (ts ++ List.replicate (max fs.length ts.length - ts.length) 0))) = H6 at s6 h6 ⊢
      have h6a := s6 _ _ h3
      have s7 := s3.trans s6
      refine ⟨_, rfl, _, rfl, f1, f2, _, _, rfl, .inl (.inl h6a), .inl (.inl h6), fun D nD => ?_⟩
      have e1 := numB_pad fs (max fs.length ts.length - fs.length)
      have e2 := numB_pad ts (max fs.length ts.length - ts.length)
      have b1 := bits_app fb (bits_zeros (max fs.length ts.length - fs.length))
      have b2 := bits_app tb (bits_zeros (max fs.length ts.length - ts.length))
      have l1 : (fs ++ List.replicate (max fs.length ts.length - fs.length) 0).length = max fs.length ts.length := by
        rw [List.length_append, List.length_replicate]
        omega
      have l2 : (ts ++ List.replicate (max fs.length ts.length - ts.length) 0).length = max fs.length ts.length := by
        rw [List.length_append, List.length_replicate]
        omega
      generalize fs ++ List.replicate (max fs.length ts.length - fs.length) 0 = us at e1 b1 l1 h6a ⊢
      generalize ts ++ List.replicate (max fs.length ts.length - ts.length) 0 = ws at e2 b2 l2 h6 ⊢
      generalize hN : max fs.length ts.length = N at l1 l2
      refine lc_it (walk_zip (xs := nats us) (ys := nats ws) (n := N) (by rw [List.length_map, List.length_map]; omega)) (fun i H' => Same H6 H' ∧ ∃ gs : List Nat, gs.length = i ∧ (∀ b ∈ gs, b < 2) ∧ numB gs = numB (us.take i) ^^^ numB (ws.take i) ∧ H' D = some (.lst (nats gs)))
        ⟨same_upd nD, [], rfl, (fun b hb => nomatch hb), (by simp [numB]), upd_same⟩ (fun i H' _ z => ⟨.inl (.inl (z.1 _ _ h6a)), .inl (.inl (z.1 _ _ h6))⟩) ?_ ?_
      · rintro i v H7 H8 hi ⟨sm, gs, gl, gb, ge, hd⟩ ⟨t, x, y, rfl, nt, rfl, hx, hy⟩
        obtain ⟨u, eu, rfl⟩ := nats_at hx
        obtain ⟨m, ew, rfl⟩ := nats_at hy
        have u2 := b1 u (List.mem_of_getElem? eu)
        have m2 := b2 m (List.mem_of_getElem? ew)
        have Dt : D ≠ t := ne_of_none hd nt
        refine ⟨t, _, rfl, .inl (.inl upd_same), rfl, _, _, rfl, _, _, rfl, rfl, rfl, _, rfl, _, rfl, _, _, rfl, rfl, .inl ⟨_, rfl, _, _, rfl, rfl, (show (0 : Int) < 2 by decide), ?_⟩⟩
        dsimp only
        rw [intMod u2 m2]
        refine ⟨_, (upd_ne Dt).trans hd, ?_, same_put (same_new sm nt) nD, gs ++ [u ^^^ m], ?_, bits_snoc gb (xor_lt u2 m2), ?_, ?_⟩
        · rw [List.length_map]
          have := line5
          omega
        · rw [List.length_append, gl]
          rfl
        · rw [numB_snoc gb (xor_lt u2 m2), ge, numB_take b1 eu, numB_take b2 ew, gl, Nat.shiftLeft_xor_distrib]
          refine Nat.eq_of_testBit_eq fun k => ?_
          simp only [Nat.testBit_xor]
          cases (numB (us.take i)).testBit k <;> cases (numB (ws.take i)).testBit k <;> cases (u <<< i).testBit k <;> cases (m <<< i).testBit k <;> rfl
        · rw [upd_same, nats_snoc]
      · rintro H' ⟨sm, gs, gl, gb, ge, hd⟩
        refine ⟨D, gs, rfl, .inl (.inl hd), gb, fun r H9 s9 nr hr2 => ?_⟩
        have eg : numB gs = numB fs ^^^ numB ts := by
          rw [ge, ← l1, List.take_length, l1, ← l2, List.take_length, e1, e2]
        refine q r H9 ((s7.trans sm).trans s9) ((s7.trans sm).free nr) ?_
        rw [hr2, eg]
theorem sc_law_product : FnScope ["_law_one", "_law_two", "_law_found", "_law_k", "_law_bit", "_law_j", "_law_mate"] ["_law_one", "_law_two"] (defScope (top 30)) := ⟨rfl, rfl, rfl, by decide +kernel, rfl, by decide +kernel, by decide +kernel⟩
theorem ok_product (T : Txt K mg) (C_law_bare : CallF P w K mg base CX0 1 "_law_bare" ["_law_row"] (sp_bare K)) : CallF P w K mg base CX0 2 "_law_product" ["_law_one", "_law_two"] sp_product := by
  refine callF_of T.d_law_product sc_law_product (fun _ _ _ _ _ _ us hl => match us, hl with | [_, _], _ => rfl) (fun vs H Q E h => ?_) (fun cdv A outer s H vs Q E hr h => ?_)
  · obtain ⟨a, b, fs, ts, rfl, _⟩ := h
    rfl
  · obtain ⟨a, b, fs, ts, rfl, hA, hB, fb, tb, lf, lt, q⟩ := h
    refine ⟨_, (pss_cons (ps_set (i := 2) sc_law_product.nd rfl (.inl rfl) (pe_op op_rep (pe_lst (pa_cons pe_int pa_nil)) (pe_op op_add (pe_callB call_len_seq (by rfl) T.b_len bb_len (pa_cons (pv 0) pa_nil)) (pe_callB call_len_seq (by rfl) T.b_len bb_len (pa_cons (pv 1) pa_nil)))))
      (pss_cons (ps_for PassesOwn.never rfl (pi_enum (by rfl) T.b_enumerate (pa_cons (pv 0) pa_nil)) (pg_tup (by rfl) (pgs_cons (pg_name (i := 3) sc_law_product.nd rfl (.inl rfl)) (pgs_cons (pg_name (i := 4) sc_law_product.nd rfl (.inl rfl)) pgs_nil)))
          (pss_one (ps_if (pt_cmpR op_eq (pv 4) pe_int (nomark _))
            (pss_one (ps_for PassesOwn.never rfl (pi_enum (by rfl) T.b_enumerate (pa_cons (pv 1) pa_nil)) (pg_tup (by rfl) (pgs_cons (pg_name (i := 5) sc_law_product.nd rfl (.inl rfl)) (pgs_cons (pg_name (i := 6) sc_law_product.nd rfl (.inl rfl)) pgs_nil)))
              (pss_one (ps_asg (pe_op op_mod (pe_callTy call_int1 (by rfl) T.b_int bt_int (pa_cons (pe_op op_add (pe_ix ix_list (pv 2) (pe_op op_add (pv 3) (pv 5)) (fun _ _ => rfl)) (pv 6)) pa_nil)) pe_int) (pg_sub (pv 2) (pe_op op_add (pv 3) (pv 5)) set_list)))))
            pss_nil)))
      (pss_one (ps_ret (pe_f C_law_bare (hr.mono (by decide)) (by rfl) pass0 (pa_cons (pv 2) pa_nil)))))), ?_⟩
    have lf2 : (nats fs).length = fs.length := List.length_map _
    have lt2 : (nats ts).length = ts.length := List.length_map _
    refine ⟨by show 1 ≤ sizeLine; decide, fun z1 n1 => ?_⟩
    have s1 : Same H (upd H z1 (.lst [.int 0])) := same_upd n1
    refine ⟨_, rfl, a, _, rfl, .inl (.inl (.inl (s1 _ _ hA))), _, rfl, b, _, rfl, .inl (.inl (.inl (s1 _ _ hB))), _, _, rfl, rfl, z1, _, _, rfl, rfl, upd_same, by omega, by omega, ?_, fun l n2 => ?_⟩
    · show 1 * _ ≤ _
      have := line5
      omega
    have et : (((nats fs).length : Int) + ((nats ts).length : Int)).toNat = fs.length + ts.length := by omega
    rw [et, show ([.int 0] : List V) = [.int ((0 : Nat) : Int)] from rfl, rep_nats]
    have nl : H l = none := s1.free n2
    have s2 : Same H (upd (upd H z1 (.lst [.int ((0 : Nat) : Int)])) l (.lst (nats (List.replicate (fs.length + ts.length) 0)))) := same_new s1 n2
    have h2 : (upd (upd H z1 (.lst [.int ((0 : Nat) : Int)])) l (.lst (nats (List.replicate (fs.length + ts.length) 0)))) l = _ := upd_same
    generalize upd (upd H z1 (.lst [.int ((0 : Nat) : Int)])) l (.lst (nats (List.replicate (fs.length + ts.length) 0))) = H2 at s2 h2 ⊢
    refine ⟨_, rfl, a, _, rfl, .inl (.inl (s2 _ _ hA)), for_it (walk_enum (xs := nats fs)) (fun i σ H3 => ∃ (gs : List Nat) (y3 y4 y5 y6 : Option V), σ = [some (.ref a), some (.ref b), some (.ref l), y3, y4, y5, y6] ∧ Same H H3 ∧ H3 l = some (.lst (nats gs)) ∧ (∀ b ∈ gs, b < 2) ∧ gs.length = fs.length + ts.length ∧ numB gs = xs (fun k => if (numB fs).testBit k then numB ts <<< k else 0) i)
      ⟨_, none, none, none, none, rfl, s2, h2, bits_zeros _, List.length_replicate, numB_zeros _⟩ (fun i σ H3 _ ⟨_, _, _, _, _, _, sm, _⟩ => .inl (.inl (sm _ _ hA))) ?_ ?_⟩
    · rintro i v σ H3 H4 hi ⟨gs, y3, y4, y5, y6, rfl, sm, hl, gb, gl, ge⟩ ⟨t, x, y, rfl, nt, rfl, hx, hy⟩
      have ex : x = .int (i : Nat) := (Option.some.inj hx).symm
      subst ex
      obtain ⟨f, ef, rfl⟩ := nats_at hy
      have hif : i < fs.length := (List.getElem?_eq_some_iff.mp ef).1
      have s4 : Same H3 (upd H3 t (.tup [.int (i : Nat), .int f])) := same_upd nt
      have hl4 := s4 _ _ hl
      refine ⟨t, _, rfl, .inl (.inl upd_same), rfl, _, _, rfl, _, _, rfl, rfl, ?_⟩
      generalize upd H3 t (.tup [.int (i : Nat), .int f]) = H4 at s4 hl4 ⊢
      have sm4 := sm.trans s4
      have tbf : (numB fs).testBit i = decide (f = 1) := by
        rw [numB_testBit fs fb, ef]
        simp
      have ei : xs (fun k => if (numB fs).testBit k then numB ts <<< k else 0) (i + 1) = numB gs ^^^ (if f = 1 then numB ts <<< i else 0) := by
        show xs _ i ^^^ (if (numB fs).testBit i then numB ts <<< i else 0) = _
        rw [← ge, tbf]
        simp
      refine ⟨_, rfl, rfl, _, rfl, ?_⟩
      by_cases c : f = 1
      · subst c
        refine iteT ?_
        rw [if_pos rfl] at ei
        refine ⟨_, rfl, b, _, rfl, .inl (.inl (sm4 _ _ hB)), for_it (walk_enum (xs := nats ts)) (fun j σ H5 => ∃ (hs : List Nat) (y5 y6 : Option V), σ = [some (.ref a), some (.ref b), some (.ref l), some (.int (i : Nat)), some (.int ((1 : Nat) : Int)), y5, y6] ∧ Same H H5 ∧ H5 l = some (.lst (nats hs)) ∧ (∀ b ∈ hs, b < 2) ∧ hs.length = fs.length + ts.length ∧ numB hs = numB gs ^^^ numB (ts.take j) <<< i)
          ⟨gs, y5, y6, rfl, sm4, hl4, gb, gl, by rw [List.take_zero]; show _ = numB gs ^^^ 0 <<< i; simp⟩ (fun j σ H5 _ ⟨_, _, _, _, sm, _⟩ => .inl (.inl (sm _ _ hB))) ?_ ?_⟩
        · rintro j v σ H5 H6 hj ⟨hs, y5, y6, rfl, sm5, hl5, hb, hhl, he⟩ ⟨t2, x, y, rfl, nt2, rfl, hx, hy⟩
          have ex : x = .int (j : Nat) := (Option.some.inj hx).symm
          subst ex
          obtain ⟨m, em, rfl⟩ := nats_at hy
          have hjt : j < ts.length := (List.getElem?_eq_some_iff.mp em).1
          have s6 : Same H5 (upd H5 t2 (.tup [.int (j : Nat), .int m])) := same_upd nt2
          have hl6 := s6 _ _ hl5
          refine ⟨t2, _, rfl, .inl (.inl upd_same), rfl, _, _, rfl, _, _, rfl, rfl, ?_⟩
          generalize upd H5 t2 (.tup [.int (j : Nat), .int m]) = H6 at s6 hl6 ⊢
          have m2 := tb m (List.mem_of_getElem? em)
          obtain ⟨x, ex⟩ : ∃ x, hs[i + j]? = some x := ⟨_, List.getElem?_eq_getElem (by omega)⟩
          have x2 := hb x (List.mem_of_getElem? ex)
          refine ⟨_, rfl, _, rfl, _, rfl, _, _, rfl, rfl, l, _, _, .int x, rfl, rfl, .inl (.inl hl6), ?_, _, rfl, _, _, rfl, rfl, .inl ⟨_, rfl, _, _, rfl, rfl, (show (0 : Int) < 2 by decide), ?_⟩⟩
          · have : ((i : Nat) : Int) + ((j : Nat) : Int) = ((i + j : Nat) : Int) := by omega
            rw [this]
            exact atI_nat (nats_get ex)
          show gSub _ _ _ (V.int ((((x : Nat) : Int) + ((m : Nat) : Int)) % 2)) _ _ _
          rw [intMod x2 m2]
          refine ⟨_, rfl, _, rfl, _, rfl, _, _, rfl, rfl, l, _, _, i + j, rfl, rfl, hl6, ?_, hs.set (i + j) (x ^^^ m), _, _, rfl, same_put (sm5.trans s6) nl, ?_, bits_set hb (xor_lt x2 m2), ?_, ?_⟩
          · have : ((i : Nat) : Int) + ((j : Nat) : Int) = ((i + j : Nat) : Int) := by omega
            rw [this]
            exact ixN_nat (by rw [List.length_map]; omega)
          · rw [upd_same, nats_set]
          · rw [List.length_set, hhl]
          · exact row_turn hb tb he em ex
        · rintro σ H5 ⟨hs, y5, y6, rfl, sm5, hl5, hb, hhl, he⟩
          refine ⟨hs, _, _, y5, y6, rfl, sm5, hl5, hb, hhl, ?_⟩
          rw [he, ei, lt2, List.take_length]
      · have e2 : decide (V.int (f : Int) = V.int 1) = false := decide_eq_false fun z => c (by
          have := V.int.inj z
          omega)
        rw [e2]
        refine iteF ⟨gs, _, _, y5, y6, rfl, sm4, hl4, gb, gl, ?_⟩
        rw [ei, if_neg c, Nat.xor_zero]
    · rintro σ H3 ⟨gs, y3, y4, y5, y6, rfl, sm, hl, gb, gl, ge⟩
      refine ⟨_, rfl, l, gs, rfl, .inl (.inl hl), gb, fun r H9 s9 nr hr2 => ?_⟩
      have eg : numB gs = pmul (numB fs) (numB ts) := by
        rw [ge, lf2, pmul_of ((blen_key _ _).mp (numB_lt fs fb)), pmul_comm]
      refine q r H9 (sm.trans s9) (sm.free nr) ?_
      rw [hr2, eg]
end
end K61

set_option maxHeartbeats 4000000
namespace K61
open PySem PySem.Spec PyProof.Rows L2 Bx
theorem ok_row {n : Nat} : ∀ v ∈ nats (rowOf n), okV v := ok_bits rowOf_bit
theorem nats_len (ks : List Nat) : (nats ks).length = ks.length := List.length_map _
theorem row_len (n : Nat) : (nats (rowOf n)).length = blen n := by rw [nats_len, rowOf_length]
theorem row_empty (n : Nat) : (nats (rowOf n)).isEmpty = decide (n = 0) := by
  by_cases h : n = 0
  · subst h
    rfl
  · rw [decide_eq_false h]
    have : 0 < (nats (rowOf n)).length := by
      rw [row_len, blen_pos h]
      omega
    cases e : nats (rowOf n) with
    | nil =>
      rw [e] at this
      exact absurd this (by decide)
    | cons x r => rfl
section
variable {P : Program} {w : World} {K : PySem.W.Frag} {mg : Str → Option Value} {base : Heap}
/-- two rows, the divisor not 0: the pair of rows -/
def sp_divided : Sp := fun vs H Q _ => ∃ (x y : Addr) (a b : Nat), vs = [.ref x, .ref y] ∧ H x = some (.lst (nats (rowOf a))) ∧ H y = some (.lst (nats (rowOf b))) ∧ b ≠ 0 ∧ blen a ≤ 1000 ∧ blen b ≤ 1000 ∧
  ∀ t u v H', Same H H' → H' t = some (.tup [.ref u, .ref v]) → H' u = some (.lst (nats (rowOf (pdiv a b).1))) → H' v = some (.lst (nats (rowOf (pdiv a b).2))) → Q (.ref t) H'
theorem sc_law_divided : FnScope ["_law_one", "_law_two", "_law_rest", "_law_parts", "_law_gap", "_law_j", "_law_mate"] ["_law_one", "_law_two"] (defScope (top 31)) := ⟨rfl, rfl, rfl, by decide +kernel, rfl, by decide +kernel, by decide +kernel⟩
theorem ok_divided (T : Txt K mg) (C_law_bare : CallF P w K mg base CX0 1 "_law_bare" ["_law_row"] (sp_bare K)) : CallF P w K mg base CX0 2 "_law_divided" ["_law_one", "_law_two"] sp_divided := by
  refine callF_of T.d_law_divided sc_law_divided (fun _ _ _ _ _ _ us hl => match us, hl with | [_, _], _ => rfl) (fun vs H Q E h => ?_) (fun cdv A outer s H vs Q E hr h => ?_)
  · obtain ⟨x, y, a, b, rfl, _⟩ := h
    rfl
  · obtain ⟨x, y, a, b, rfl, hx, hy, b0, la, lb, q⟩ := h
    refine ⟨_, (pss_cons (ps_par (i := 2) (j := 3) (by rfl) sc_law_divided.nd rfl rfl (by decide) rfl rfl (pa_cons (pe_callTy call_list_of (by rfl) T.b_list bt_list (pa_cons (pv 0) pa_nil)) (pa_cons (pe_op op_rep (pe_lst (pa_cons pe_int pa_nil)) (pe_callB call_len_seq (by rfl) T.b_len bb_len (pa_cons (pv 0) pa_nil))) pa_nil)) (by rfl))
      (pss_cons (ps_for PassesOwn.never rfl (pi_range3 (by rfl) T.b_range (pa_cons (pe_op op_sub (pe_callB call_len_seq (by rfl) T.b_len bb_len (pa_cons (pv 0) pa_nil)) (pe_callB call_len_seq (by rfl) T.b_len bb_len (pa_cons (pv 1) pa_nil))) (pa_cons (pe_un un_neg pe_int) (pa_cons (pe_un un_neg pe_int) pa_nil)))) (pg_name (i := 4) sc_law_divided.nd rfl (.inl rfl))
          (pss_one (ps_if (pt_cmpR op_eq (pe_ix ix_list (pv 2) (pe_op op_sub (pe_op op_add (pv 4) (pe_callB call_len_seq (by rfl) T.b_len bb_len (pa_cons (pv 1) pa_nil))) pe_int) (fun _ _ => rfl)) pe_int (nomark _))
            (pss_cons (ps_asg pe_int (pg_sub (pv 3) (pv 4) set_list))
            (pss_one (ps_for PassesOwn.never rfl (pi_enum (by rfl) T.b_enumerate (pa_cons (pv 1) pa_nil)) (pg_tup (by rfl) (pgs_cons (pg_name (i := 5) sc_law_divided.nd rfl (.inl rfl)) (pgs_cons (pg_name (i := 6) sc_law_divided.nd rfl (.inl rfl)) pgs_nil)))
                (pss_one (ps_asg (pe_op op_mod (pe_callTy call_int1 (by rfl) T.b_int bt_int (pa_cons (pe_op op_add (pe_ix ix_list (pv 2) (pe_op op_add (pv 4) (pv 5)) (fun _ _ => rfl)) (pv 6)) pa_nil)) pe_int) (pg_sub (pv 2) (pe_op op_add (pv 4) (pv 5)) set_list))))))
            pss_nil)))
      (pss_one (ps_ret (pe_tup (pa_cons (pe_f C_law_bare (hr.mono (by decide)) (by rfl) pass0 (pa_cons (pv 3) pa_nil)) (pa_cons (pe_f C_law_bare (hr.mono (by decide)) (by rfl) pass0 (pa_cons (pv 2) pa_nil)) pa_nil))))))), ?_⟩
    have hb := blen_pos b0
    refine ⟨_, rfl, x, _, rfl, .inl (.inl (.inl hx)), fun l nl => ?_⟩
    have s1 : Same H (upd H l (.lst (nats (rowOf a)))) := same_upd nl
    have h1 : (upd H l (.lst (nats (rowOf a)))) l = _ := upd_same
    generalize upd H l (.lst (nats (rowOf a))) = H1 at s1 h1 ⊢
    refine ⟨by show 1 ≤ sizeLine; decide, fun z1 n1 => ?_⟩
    have s2 : Same H1 (upd H1 z1 (.lst [.int 0])) := same_upd n1
    refine ⟨_, rfl, x, _, rfl, .inl (.inl (.inl ((s1.trans s2) _ _ hx))), z1, _, _, rfl, rfl, upd_same, by rw [row_len]; omega, by rw [row_len]; omega, ?_, fun m n2 => ?_⟩
    · rw [row_len]
      show 1 * _ ≤ _
      have := line5
      omega
    rw [row_len, Int.toNat_natCast, show ([.int 0] : List V) = [.int ((0 : Nat) : Int)] from rfl, rep_nats]
    have nm1 : H1 m = none := s2.free n2
    have nm : H m = none := s1.free nm1
    have lm : l ≠ m := ne_of_none h1 nm1
    have s3 : Same H1 (upd (upd H1 z1 (.lst [.int ((0 : Nat) : Int)])) m (.lst (nats (List.replicate (blen a) 0)))) := same_new s2 n2
    have h3 : (upd (upd H1 z1 (.lst [.int ((0 : Nat) : Int)])) m (.lst (nats (List.replicate (blen a) 0)))) m = _ := upd_same
    generalize upd (upd H1 z1 (.lst [.int ((0 : Nat) : Int)])) m (.lst (nats (List.replicate (blen a) 0))) = H3 at s3 h3 ⊢
    have s13 := s1.trans s3
    have h1' := s3 _ _ h1
    refine ⟨_, _, rfl, ?_⟩
    refine ⟨_, rfl, x, _, rfl, .inl (.inl (.inl (s13 _ _ hx))), _, rfl, y, _, rfl, .inl (.inl (.inl (s13 _ _ hy))), _, _, rfl, rfl, 1, rfl, 1, rfl, _, -1, -1, _, rfl, RgC.neg (by rw [row_len, row_len]; omega) (by rw [row_len, row_len]; omega) (by decide) (by decide), ?_⟩
    rw [row_len, row_len]
    have hn : ((blen a : Int) - (blen b : Int) - -1).toNat = blen a - b.log2 := by omega
    rw [hn]
    refine for_rangeC (fun i σ H4 => ∃ (us rs : List Nat) (y4 y5 y6 : Option V), σ = [some (.ref x), some (.ref y), some (.ref l), some (.ref m), y4, y5, y6] ∧ Same H H4 ∧ H4 l = some (.lst (nats rs)) ∧ H4 m = some (.lst (nats us)) ∧ (∀ b ∈ us, b < 2) ∧ (∀ b ∈ rs, b < 2) ∧ us.length = blen a ∧ rs.length = blen a ∧ divN b b.log2 (blen a - b.log2 - i) (numB us, numB rs) = pdiv a b)
      ⟨_, _, none, none, none, rfl, s13, h1', h3, bits_zeros _, rowOf_bit, List.length_replicate, rowOf_length a, by rw [numB_zeros, numB_rowOf]; rfl⟩ ?_ ?_
    · rintro i σ H4 hi ⟨us, rs, y4, y5, y6, rfl, sm, hl, hm, ub, rb, ul, rl, e⟩
      obtain ⟨g, hg⟩ : ∃ g : Nat, blen a - b.log2 - i = g + 1 := ⟨blen a - b.log2 - i - 1, by omega⟩
      have eg : (blen a : Int) - (blen b : Int) + (i : Nat) * (-1) = (g : Int) := by omega
      have hg2 : blen a - b.log2 - (i + 1) = g := by omega
      rw [hg] at e
      have e2 : divN b b.log2 g (divStep b b.log2 (numB us, numB rs) g) = pdiv a b := e
      show gName 4 (V.int ((blen a : Int) - (blen b : Int) + (i : Nat) * (-1))) _ _ _
      rw [eg]
      obtain ⟨r, er⟩ : ∃ r, rs[g + b.log2]? = some r := ⟨_, List.getElem?_eq_getElem (by omega)⟩
      have r2 := rb r (List.mem_of_getElem? er)
      refine ⟨_, rfl, _, rfl, _, rfl, y, _, rfl, .inl (.inl (.inl (sm _ _ hy))), _, _, rfl, rfl, _, _, rfl, rfl, l, _, _, .int r, rfl, rfl, .inl (.inl hl), ?_, rfl, _, rfl, ?_⟩
      · rw [row_len]
        have : (g : Int) + (blen b : Int) - 1 = ((g + b.log2 : Nat) : Int) := by omega
        rw [this]
        exact atI_nat (nats_get er)
      have tb : (numB rs).testBit (g + b.log2) = decide (r = 1) := by
        rw [numB_testBit rs rb, er]
        simp
      by_cases c : r = 1
      · subst c
        have es : divStep b b.log2 (numB us, numB rs) g = (numB us ||| 1 <<< g, numB rs ^^^ b <<< g) := by
          unfold divStep
          rw [if_pos (by rw [tb]; rfl)]
        rw [es] at e2
        refine iteT ⟨_, rfl, _, rfl, m, _, _, g, rfl, rfl, hm, ixN_nat (by rw [nats_len]; omega), ?_⟩
        have sm5 : Same H (upd H4 m (.lst ((nats us).set g (.int 1)))) := same_put sm nm
        have hm5 : (upd H4 m (.lst ((nats us).set g (.int 1)))) m = some (.lst (nats (us.set g 1))) := by
          rw [upd_same, ← nats_set]
          rfl
        have hl5 : (upd H4 m (.lst ((nats us).set g (.int 1)))) l = some (.lst (nats rs)) := (upd_ne lm).trans hl
        generalize upd H4 m (.lst ((nats us).set g (.int 1))) = H5 at sm5 hm5 hl5 ⊢
        refine ⟨_, rfl, y, _, rfl, .inl (.inl (sm5 _ _ hy)), for_it (walk_enum (xs := nats (rowOf b))) (fun j σ H6 => ∃ (hs : List Nat) (y5 y6 : Option V), σ = [some (.ref x), some (.ref y), some (.ref l), some (.ref m), some (.int (g : Nat)), y5, y6] ∧ Same H H6 ∧ H6 l = some (.lst (nats hs)) ∧ H6 m = some (.lst (nats (us.set g 1))) ∧ (∀ b ∈ hs, b < 2) ∧ hs.length = blen a ∧ numB hs = numB rs ^^^ numB ((rowOf b).take j) <<< g)
          ⟨rs, y5, y6, rfl, sm5, hl5, hm5, rb, rl, by rw [List.take_zero]; show _ = numB rs ^^^ 0 <<< g; simp⟩ (fun j σ H6 _ ⟨_, _, _, _, sm, _⟩ => .inl (.inl (sm _ _ hy))) ?_ ?_⟩
        · rintro j v σ H6 H7 hj ⟨hs, y5, y6, rfl, sm6, hl6, hm6, hb2, hhl, he⟩ ⟨t2, vx, vy, rfl, nt2, rfl, hx2, hy2⟩
          have ex : vx = .int (j : Nat) := (Option.some.inj hx2).symm
          subst ex
          obtain ⟨mt, em, rfl⟩ := nats_at hy2
          have hjt : j < (rowOf b).length := (List.getElem?_eq_some_iff.mp em).1
          rw [rowOf_length] at hjt
          have s7 : Same H6 (upd H6 t2 (.tup [.int (j : Nat), .int mt])) := same_upd nt2
          have hl7 := s7 _ _ hl6
          have hm7 := s7 _ _ hm6
          refine ⟨t2, _, rfl, .inl (.inl upd_same), rfl, _, _, rfl, _, _, rfl, rfl, ?_⟩
          generalize upd H6 t2 (.tup [.int (j : Nat), .int mt]) = H7 at s7 hl7 hm7 ⊢
          have m2 := rowOf_bit mt (List.mem_of_getElem? em)
          obtain ⟨v, ev⟩ : ∃ v, hs[g + j]? = some v := ⟨_, List.getElem?_eq_getElem (by omega)⟩
          have v2 := hb2 v (List.mem_of_getElem? ev)
          have eix : ((g : Nat) : Int) + ((j : Nat) : Int) = ((g + j : Nat) : Int) := by omega
          refine ⟨_, rfl, _, rfl, _, rfl, _, _, rfl, rfl, l, _, _, .int v, rfl, rfl, .inl (.inl hl7), ?_, _, rfl, _, _, rfl, rfl, .inl ⟨_, rfl, _, _, rfl, rfl, (show (0 : Int) < 2 by decide), ?_⟩⟩
          · rw [eix]
            exact atI_nat (nats_get ev)
          show gSub _ _ _ (V.int ((((v : Nat) : Int) + ((mt : Nat) : Int)) % 2)) _ _ _
          rw [intMod v2 m2]
          refine ⟨_, rfl, _, rfl, _, rfl, _, _, rfl, rfl, l, _, _, g + j, rfl, rfl, hl7, ?_, hs.set (g + j) (v ^^^ mt), _, _, rfl, same_put (sm6.trans s7) nl, ?_, ?_, bits_set hb2 (xor_lt v2 m2), ?_, ?_⟩
          · rw [eix]
            exact ixN_nat (by rw [nats_len]; omega)
          · rw [upd_same, nats_set]
          · rw [upd_ne (Ne.symm lm)]
            exact hm7
          · rw [List.length_set, hhl]
          · exact row_turn hb2 rowOf_bit he em ev
        · rintro σ H6 ⟨hs, y5, y6, rfl, sm6, hl6, hm6, hb2, hhl, he⟩
          refine ⟨us.set g 1, hs, _, y5, y6, rfl, sm6, hl6, hm6, bits_set ub (by decide), hb2, by rw [List.length_set, ul], hhl, ?_⟩
          rw [nats_len, List.take_length, numB_rowOf] at he
          rw [hg2, he, numB_set1 ub (by omega)]
          exact e2
      · have es : divStep b b.log2 (numB us, numB rs) g = (numB us, numB rs) := by
          unfold divStep
          rw [if_neg (by rw [tb]; simpa using c)]
        rw [es] at e2
        have ef : decide (V.int (r : Int) = V.int 1) = false := decide_eq_false fun z => c (by
          have := V.int.inj z
          omega)
        rw [ef]
        refine iteF ⟨us, rs, _, y5, y6, rfl, sm, hl, hm, ub, rb, ul, rl, ?_⟩
        rw [hg2]
        exact e2
    · rintro σ H4 ⟨us, rs, y4, y5, y6, rfl, sm, hl, hm, ub, rb, ul, rl, e⟩
      rw [Nat.sub_self] at e
      have e2 : (numB us, numB rs) = pdiv a b := e
      refine ⟨_, rfl, m, us, rfl, .inl (.inl hm), ub, fun u H5 s5 nu hu => ⟨_, rfl, l, rs, rfl, .inl (.inl (s5 _ _ hl)), rb, fun v H6 s6 nv hv => ⟨by show 2 ≤ sizeLine; decide, fun t nt => ?_⟩⟩⟩
      have s7 : Same H6 (upd H6 t (.tup [.ref u, .ref v])) := same_upd nt
      refine q t u v _ (((sm.trans s5).trans s6).trans s7) upd_same ?_ ?_
      · rw [← e2]
        exact s7 _ _ (s6 _ _ hu)
      · rw [← e2]
        exact s7 _ _ hv
end
end K61

set_option maxHeartbeats 4000000
namespace K61
open PySem PySem.Spec PyProof.Rows L2 Bx
section
variable {P : Program} {w : World} {K : PySem.W.Frag} {mg : Str → Option Value} {base : Heap}
def sp_common : Sp := fun vs H Q _ => ∃ (x y : Addr) (a b : Nat), vs = [.ref x, .ref y] ∧ H x = some (.lst (nats (rowOf a))) ∧ H y = some (.lst (nats (rowOf b))) ∧ blen a ≤ 1000 ∧ blen b ≤ 1000 ∧
  ∀ r H', Same H H' → H' r = some (.lst (nats (rowOf (pgcd a b)))) → Q (.ref r) H'
theorem sc_law_common : FnScope ["_law_one", "_law_two", "_law_first", "_law_second", "_law_turn"] ["_law_one", "_law_two"] (defScope (top 32)) := ⟨rfl, rfl, rfl, by decide +kernel, rfl, by decide +kernel, by decide +kernel⟩
theorem ok_common (T : Txt K mg) (C_law_divided : CallF P w K mg base CX0 2 "_law_divided" ["_law_one", "_law_two"] sp_divided) : CallF P w K mg base CX0 3 "_law_common" ["_law_one", "_law_two"] sp_common := by
  refine callF_of T.d_law_common sc_law_common (fun _ _ _ _ _ _ us hl => match us, hl with | [_, _], _ => rfl) (fun vs H Q E h => ?_) (fun cdv A outer s H vs Q E hr h => ?_)
  · obtain ⟨x, y, a, b, rfl, _⟩ := h
    rfl
  · obtain ⟨x, y, a, b, rfl, hx, hy, la, lb, q⟩ := h
    refine ⟨_, (pss_cons (ps_par (i := 2) (j := 3) (by rfl) sc_law_common.nd rfl rfl (by decide) rfl rfl (pa_cons (pv 0) (pa_cons (pv 1) pa_nil)) (by rfl))
      (pss_cons (ps_for PassesOwn.never rfl (pi_range1 (by rfl) T.b_range (pa_cons (pe_op op_add (pe_op op_add (pe_callB call_len_seq (by rfl) T.b_len bb_len (pa_cons (pv 0) pa_nil)) (pe_callB call_len_seq (by rfl) T.b_len bb_len (pa_cons (pv 1) pa_nil))) pe_int) pa_nil)) (pg_name (i := 4) sc_law_common.nd rfl (.inl rfl))
          (pss_cons (ps_if (pt_cmpR (op_eqNil hr.units) (pv 3) (pe_lst pa_nil) (nomark _))
              (pss_one (ps_ret (pv 2)))
              pss_nil)
          (pss_one (ps_par (i := 2) (j := 3) (by rfl) sc_law_common.nd rfl rfl (by decide) rfl rfl (pa_cons (pv 3) (pa_cons (pe_ix ix_tup (pe_f C_law_divided (hr.mono (by decide)) (by rfl) pass0 (pa_cons (pv 2) (pa_cons (pv 3) pa_nil))) pe_int (fun _ _ => rfl)) pa_nil)) (by rfl)))))
      (pss_one (ps_ret (pv 2))))), ?_⟩
    refine ⟨_, rfl, _, rfl, _, _, rfl, ?_⟩
    refine ⟨_, rfl, x, _, rfl, .inl (.inl (.inl hx)), _, rfl, y, _, rfl, .inl (.inl (.inl hy)), _, _, rfl, rfl, _, _, rfl, rfl, _, rfl, by rw [row_len, row_len]; omega, by rw [row_len, row_len]; omega, ?_⟩
    rw [row_len, row_len]
    have et : ((blen a : Int) + (blen b : Int) + 1).toNat = blen a + blen b + 1 := by omega
    rw [et]
    refine for_range (fun i σ H2 => ∃ (u v : Addr) (c d : Nat) (y4 : Option V), σ = [some (.ref x), some (.ref y), some (.ref u), some (.ref v), y4] ∧ Same H H2 ∧ H2 u = some (.lst (nats (rowOf c))) ∧ H2 v = some (.lst (nats (rowOf d))) ∧ blen c ≤ 1000 ∧ blen d ≤ 1000 ∧ blen d + i ≤ blen a + blen b ∧ pgcd c d = pgcd a b)
      ⟨x, y, a, b, none, rfl, Same.refl H, hx, hy, la, lb, by omega, rfl⟩ ?_ ?_
    · rintro i σ H2 hi ⟨u, v, c, d, y4, rfl, sm, hu, hv, lc, ld, hd, e⟩
      refine ⟨_, rfl, Nat.zero_le _, fun z nz => ?_⟩
      have s3 : Same H2 (upd H2 z (.lst [])) := same_upd nz
      refine ⟨v, _, z, rfl, rfl, .inl (.inl (s3 _ _ hv)), .inl (.inl upd_same), ok_row, _, rfl, ?_⟩
      rw [row_empty]
      by_cases d0 : d = 0
      · subst d0
        rw [pgcd_zero] at e
        subst e
        exact iteT ⟨_, rfl, q u _ (sm.trans s3) (s3 _ _ hu)⟩
      · rw [decide_eq_false d0]
        have hrem := pdiv_rem_lt (a := c) d0
        refine iteF ⟨_, rfl, _, rfl, _, rfl, u, v, c, d, rfl, s3 _ _ hu, s3 _ _ hv, d0, lc, ld, fun t m n H4 s4 ht hm hn => ?_⟩
        have s24 := s3.trans s4
        refine ⟨t, _, 1, _, rfl, rfl, .inl (.inl ht), atI_nat (j := 1) rfl, _, _, rfl, v, n, d, (pdiv c d).2, _, rfl, sm.trans s24, s24 _ _ hv, hn, ld, by omega, by omega, ?_⟩
        rw [← pgcd_turn d0]
        exact e
    · rintro σ H2 ⟨u, v, c, d, y4, rfl, sm, hu, hv, lc, ld, hd, e⟩
      omega
def sp_power : Sp := fun vs H Q _ => ∃ (x y : Addr) (a e m : Nat), vs = [.ref x, .int e, .ref y] ∧ H x = some (.lst (nats (rowOf a))) ∧ H y = some (.lst (nats (rowOf m))) ∧ m ≠ 0 ∧ blen a ≤ 400 ∧ blen m ≤ 400 ∧ blen e ≤ 64 ∧
  ∀ r H', Same H H' → H' r = some (.lst (nats (rowOf (ppow m (pdiv 1 m).2 (pdiv a m).2 e)))) → Q (.ref r) H'
theorem sc_law_power : FnScope ["_law_row", "_law_many", "_law_by", "_law_found", "_law_factor", "_law_rest", "_law_turn"] ["_law_row", "_law_many", "_law_by"] (defScope (top 33)) := ⟨rfl, rfl, rfl, by decide +kernel, rfl, by decide +kernel, by decide +kernel⟩
theorem ok_power (T : Txt K mg) (C_law_divided : CallF P w K mg base CX0 2 "_law_divided" ["_law_one", "_law_two"] sp_divided) (C_law_product : CallF P w K mg base CX0 2 "_law_product" ["_law_one", "_law_two"] sp_product) : CallF P w K mg base CX0 3 "_law_power" ["_law_row", "_law_many", "_law_by"] sp_power := by
  refine callF_of T.d_law_power sc_law_power (fun _ _ _ _ _ _ us hl => match us, hl with | [_, _, _], _ => rfl) (fun vs H Q E h => ?_) (fun cdv A outer s H vs Q E hr h => ?_)
  · obtain ⟨x, y, a, e, m, rfl, _⟩ := h
    rfl
  · obtain ⟨x, y, a, e, m, rfl, hx, hy, m0, la, lm, le, q⟩ := h
    refine ⟨_, (pss_cons (ps_par3 (i := 3) (j := 4) (l := 5) (by rfl) sc_law_power.nd rfl rfl rfl (by decide) (by decide) (by decide) rfl rfl rfl (pa_cons (pe_ix ix_tup (pe_f C_law_divided (hr.mono (by decide)) (by rfl) pass0 (pa_cons (pe_lst (pa_cons pe_int pa_nil)) (pa_cons (pv 2) pa_nil))) pe_int (fun _ _ => rfl)) (pa_cons (pe_ix ix_tup (pe_f C_law_divided (hr.mono (by decide)) (by rfl) pass0 (pa_cons (pv 0) (pa_cons (pv 2) pa_nil))) pe_int (fun _ _ => rfl)) (pa_cons (pv 1) pa_nil))) (by rfl))
      (pss_cons (ps_for PassesOwn.never rfl (pi_range1 (by rfl) T.b_range (pa_cons pe_int pa_nil)) (pg_name (i := 6) sc_law_power.nd rfl (.inl rfl))
          (pss_cons (ps_if (pt_cmpR op_eq (pe_op op_mod (pe_callTy call_int1 (by rfl) T.b_int bt_int (pa_cons (pv 5) pa_nil)) pe_int) pe_int (nomark _))
              (pss_one (ps_set (i := 3) sc_law_power.nd rfl (.inl rfl) (pe_ix ix_tup (pe_f C_law_divided (hr.mono (by decide)) (by rfl) pass0 (pa_cons (pe_f C_law_product (hr.mono (by decide)) (by rfl) pass0 (pa_cons (pv 3) (pa_cons (pv 4) pa_nil))) (pa_cons (pv 2) pa_nil))) pe_int (fun _ _ => rfl))))
              pss_nil)
          (pss_cons (ps_set (i := 5) sc_law_power.nd rfl (.inl rfl) (pe_op op_fdiv (pv 5) pe_int))
          (pss_cons (ps_if (pt_cmpR op_eq (pv 5) pe_int (nomark _))
              (pss_one (ps_ret (pv 3)))
              pss_nil)
          (pss_one (ps_set (i := 4) sc_law_power.nd rfl (.inl rfl) (pe_ix ix_tup (pe_f C_law_divided (hr.mono (by decide)) (by rfl) pass0 (pa_cons (pe_f C_law_product (hr.mono (by decide)) (by rfl) pass0 (pa_cons (pv 4) (pa_cons (pv 4) pa_nil))) (pa_cons (pv 2) pa_nil))) pe_int (fun _ _ => rfl))))))))
      (pss_one (ps_ret (pv 3))))), ?_⟩
    refine ⟨by show 1 ≤ sizeLine; decide, fun z nz => ?_⟩
    have s1 : Same H (upd H z (.lst [.int 1])) := same_upd nz
    have r1 := pdiv_rem_lt (a := 1) m0
    have r2 := pdiv_rem_lt (a := a) m0
    have b1 : blen 1 = 1 := by decide
    refine ⟨_, rfl, z, y, 1, m, rfl, upd_same, s1 _ _ hy, m0, by omega, by omega, fun t1 u1 v1 H2 s2 ht1 hu1 hv1 => ?_⟩
    have s12 := s1.trans s2
    refine ⟨t1, _, 1, _, rfl, rfl, .inl (.inl ht1), atI_nat (j := 1) rfl, _, rfl, _, rfl, x, y, a, m, rfl, s12 _ _ hx, s12 _ _ hy, m0, by omega, by omega, fun t2 u2 v2 H3 s3 ht2 hu2 hv2 => ?_⟩
    refine ⟨t2, _, 1, _, rfl, rfl, .inl (.inl ht2), atI_nat (j := 1) rfl, _, rfl, _, _, _, rfl, ?_⟩
    have s13 := s12.trans s3
    refine ⟨_, rfl, by decide, by decide, ?_⟩
    rw [show (64 : Int).toNat = 64 from rfl]
    refine for_range (fun i σ H4 => ∃ (u v : Addr) (f b k : Nat) (y6 : Option V), σ = [some (.ref x), some (.int e), some (.ref y), some (.ref u), some (.ref v), some (.int k), y6] ∧ Same H H4 ∧ H4 u = some (.lst (nats (rowOf f))) ∧ H4 v = some (.lst (nats (rowOf b))) ∧ blen f ≤ 400 ∧ blen b ≤ 400 ∧ blen k + i ≤ 64 ∧ ppow m f b k = ppow m (pdiv 1 m).2 (pdiv a m).2 e)
      ⟨v1, v2, _, _, e, none, rfl, s13, s3 _ _ hv1, hv2, by omega, by omega, by omega, rfl⟩ ?_ ?_
    · rintro i σ H4 hi ⟨u, v, f, b, k, y6, rfl, sm, hu, hv, lf, lb, hk, eq⟩
      have rb := pdiv_rem_lt (a := pmul b b) m0
      have pb : blen (pmul b b) ≤ 800 := pmul_blen (by omega)
      have rf := pdiv_rem_lt (a := pmul f b) m0
      have pf : blen (pmul f b) ≤ 800 := pmul_blen (by omega)
      have k2 : blen (k / 2) = blen k - 1 := by
        rw [← blen_shr k 1]
        rfl
      have kd : ((k : Int) / 2) = ((k / 2 : Nat) : Int) := by omega
      refine ⟨_, rfl, .inl ⟨_, rfl, _, _, rfl, rfl, (show (0 : Int) < 2 by decide), rfl, _, rfl, ?_⟩⟩
      have km : ((k : Int) % 2) = ((k % 2 : Nat) : Int) := by omega
      show if decide (V.int ((k : Int) % 2) = V.int 1) = true then _ else _
      rw [km]
      have eq0 : ppow m (powStep m f b k) (pdiv (pmul b b) m).2 (k / 2) = ppow m (pdiv 1 m).2 (pdiv a m).2 e := by
        by_cases z : k = 0
        · subst z
          rw [← eq]
          rfl
        · rw [← ppow_turn z]
          exact eq
      clear eq
      have eq := eq0
      clear eq0
      rcases Nat.mod_two_eq_zero_or_one k with z | z
      · have es : powStep m f b k = f := by
          unfold powStep
          rw [if_neg (by omega)]
        rw [es] at eq
        rw [z]
        refine iteF ?_
        refine ⟨_, rfl, _, _, rfl, rfl, ⟨by decide, by decide⟩, ?_⟩
        show gName 5 (V.int ((k : Int) / 2)) _ _ _
        rw [kd]
        refine ⟨_, rfl, rfl, _, rfl, ?_⟩
        by_cases k0 : k / 2 = 0
        · rw [k0] at eq ⊢
          rw [ppow_zero] at eq
          subst eq
          exact iteT ⟨_, rfl, q u _ sm hu⟩
        · rw [show decide (V.int ((k / 2 : Nat) : Int) = V.int 0) = false from decide_eq_false fun z => k0 (by
            have := V.int.inj z
            omega)]
          have kp : k ≠ 0 := fun z => k0 (by rw [z])
          have kb := blen_pos kp
          refine iteF ⟨_, rfl, _, rfl, v, v, _, _, rfl, hv, hv, rowOf_bit, rowOf_bit, by rw [rowOf_length]; omega, by rw [rowOf_length]; omega, fun w1 H6 s6 nw hw => ?_⟩
          dsimp only at hw
          rw [numB_rowOf] at hw
          refine ⟨_, rfl, w1, y, _, m, rfl, hw, s6 _ _ (sm _ _ hy), m0, by omega, by omega, fun t3 u3 v3 H7 s7 ht3 hu3 hv3 => ?_⟩
          exact ⟨t3, _, 1, _, rfl, rfl, .inl (.inl ht3), atI_nat (j := 1) rfl, u, v3, f, _, k / 2, _, rfl, (sm).trans (s6.trans s7), s7 _ _ (s6 _ _ hu), hv3, by omega, by omega, by omega, eq⟩
      · have es : powStep m f b k = (pdiv (pmul f b) m).2 := by
          unfold powStep
          rw [if_pos z]
        rw [es] at eq
        rw [z]
        refine iteT ⟨_, rfl, _, rfl, u, v, _, _, rfl, hu, hv, rowOf_bit, rowOf_bit, by rw [rowOf_length]; omega, by rw [rowOf_length]; omega, fun w0 H5 s5 nw0 hw0 => ?_⟩
        dsimp only at hw0
        rw [numB_rowOf, numB_rowOf] at hw0
        refine ⟨_, rfl, w0, y, _, m, rfl, hw0, s5 _ _ (sm _ _ hy), m0, by omega, by omega, fun t4 u4 v4 H8 s8 ht4 hu4 hv4 => ?_⟩
        refine ⟨t4, _, 1, _, rfl, rfl, .inl (.inl ht4), atI_nat (j := 1) rfl, ?_⟩
        have s58 := s5.trans s8
        have sm8 := sm.trans s58
        refine ⟨_, rfl, _, _, rfl, rfl, ⟨by decide, by decide⟩, ?_⟩
        show gName 5 (V.int ((k : Int) / 2)) _ _ _
        rw [kd]
        refine ⟨_, rfl, rfl, _, rfl, ?_⟩
        by_cases k0 : k / 2 = 0
        · rw [k0] at eq ⊢
          rw [ppow_zero] at eq
          exact iteT ⟨_, rfl, q v4 _ sm8 (by rw [← eq]; exact hv4)⟩
        · rw [show decide (V.int ((k / 2 : Nat) : Int) = V.int 0) = false from decide_eq_false fun z => k0 (by
            have := V.int.inj z
            omega)]
          have kp : k ≠ 0 := fun z => k0 (by rw [z])
          have kb := blen_pos kp
          refine iteF ⟨_, rfl, _, rfl, v, v, _, _, rfl, s58 _ _ hv, s58 _ _ hv, rowOf_bit, rowOf_bit, by rw [rowOf_length]; omega, by rw [rowOf_length]; omega, fun w1 H6 s6 nw hw => ?_⟩
          dsimp only at hw
          rw [numB_rowOf] at hw
          refine ⟨_, rfl, w1, y, _, m, rfl, hw, s6 _ _ (sm8 _ _ hy), m0, by omega, by omega, fun t3 u3 v3 H7 s7 ht3 hu3 hv3 => ?_⟩
          exact ⟨t3, _, 1, _, rfl, rfl, .inl (.inl ht3), atI_nat (j := 1) rfl, v4, v3, _, _, k / 2, _, rfl, (sm8).trans (s6.trans s7), s7 _ _ (s6 _ _ hv4), hv3, by omega, by omega, by omega, eq⟩
    · rintro σ H4 ⟨u, v, f, b, k, y6, rfl, sm, hu, hv, lf, lb, hk, eq⟩
      have k0 : k = 0 := by
        by_cases z : k = 0
        · exact z
        · have := blen_pos z
          omega
      subst k0
      rw [ppow_zero] at eq
      subst eq
      exact ⟨_, rfl, q u H4 sm hu⟩
def sp_line (K : PySem.W.Frag) : Sp := fun vs H Q _ => ∃ (x : Addr) (n : Nat), vs = [.ref x] ∧ H x = some (.lst (nats (rowOf n))) ∧ blen n ≤ 1000 ∧ ∀ H', Same H H' → Q (.str (polyT n)) H'
theorem sc_law_line : FnScope ["_law_row", "_law_terms", "_law_k", "_law_bit"] ["_law_row"] (defScope (top 34)) := ⟨rfl, rfl, rfl, by decide +kernel, rfl, by decide +kernel, by decide +kernel⟩
def bitsI (n i : Nat) : List Nat := (List.range i).filter n.testBit
theorem bitsI_succ (n i : Nat) : bitsI n (i + 1) = bitsI n i ++ (if n.testBit i then [i] else []) := by
  unfold bitsI
  rw [List.range_succ, List.filter_append]
  congr 1
  cases e : n.testBit i <;> simp [e]
theorem bitsI_len (n i : Nat) : (bitsI n i).length ≤ i := by
  unfold bitsI
  have := List.length_filter_le n.testBit (List.range i)
  simpa using this
theorem bits0 {n : Nat} : bitsN n = [] ↔ n = 0 := by
  constructor
  · intro h
    by_cases z : n = 0
    · exact z
    · have := mem_bitsN.mpr (testBit_top z)
      rw [h] at this
      cases this
  · intro h
    subst h
    rfl
def txts (n i : Nat) : List V := (bitsI n i).map fun e => V.str (termT e)
theorem sOk_term (e : Nat) : PyData.strOk (termT e) = true := by
  unfold termT
  split
  · exact sOk_of _
  · split
    · exact sOk_of _
    · exact sOk_app (sOk_of _) (sOk_of _)
theorem ok_txts (n i : Nat) : ∀ v ∈ txts n i, okD v := fun v hv => by
  obtain ⟨e, _, rfl⟩ := List.mem_map.mp hv
  exact sOk_term e
theorem ok_line (T : Txt K mg) : CallF P w K mg base CX0 1 "_law_line" ["_law_row"] (sp_line K) := by
  refine callF_of T.d_law_line sc_law_line (fun _ _ _ _ _ _ us hl => match us, hl with | [_], _ => rfl) (fun vs H Q E h => ?_) (fun cdv A outer s H vs Q E hr h => ?_)
  · obtain ⟨x, n, rfl, _⟩ := h
    rfl
  · obtain ⟨x, n, rfl, hS, hn, q⟩ := h
    refine ⟨_, (pss_cons (ps_setLc (i := 1) (own := [("_law_k", 2), ("_law_bit", 3)]) (g := gTup K 2 (gCons (gName 2) (gCons (gName 3) gNil))) (by rfl) sc_law_line.nd rfl rfl (sw_true rfl rfl rfl (by decide +kernel)) (pi_enum (by rfl) T.b_enumerate (pa_cons (pv 0) pa_nil)) (blkOk_by (own := [("_law_k", 2), ("_law_bit", 3)]) (N := ["_law_row", "_law_terms", "_law_k", "_law_bit"]) (sc := defScope (top 34)) (by decide +kernel)) (fun _ _ _ _ _ => (pg_tup (by rfl) (pgs_cons (pg_name (i := 2) sc_law_line.nd rfl (.inl rfl)) (pgs_cons (pg_name (i := 3) sc_law_line.nd rfl (.inl rfl)) pgs_nil)))) (fun _ _ _ _ _ => (pts_one (pt_cmpR op_eq (pv 3) pe_int (nomark _)))) (fun _ _ _ _ _ => (pe_ifExp (pt_cmpR op_gt (pv 2) pe_int (nomark _)) (pe_op op_add_str pe_str (pe_callTy call_str_int (by rfl) T.b_str bt_str (pa_cons (pv 2) pa_nil))) (pe_ix (show IxR _ (rIxL K) from ix_list) (pe_lst (pa_cons pe_str (pa_cons pe_str pa_nil))) (pv 2) (fun _ _ => rfl)))))
      (pss_one (ps_ret (pe_ifExp (pt_cmpR (op_neL hr.units) (pv 1) (pe_lst pa_nil) (nomark _)) (pe_join pe_str (pe_revL (pv 1))) pe_str)))), ?_⟩
    refine ⟨_, rfl, x, _, rfl, .inl (.inl hS), fun D nD => ?_⟩
    refine lc_it (walk_enum (xs := nats (rowOf n))) (fun i H' => Same H H' ∧ H' D = some (.lst (txts n i))) ⟨same_upd nD, upd_same⟩ (fun i H' _ z => .inl (.inl (z.1 _ _ hS))) ?_ ?_
    · rintro i v H2 H3 hi ⟨sm, hd⟩ ⟨t, x, y, rfl, nt, rfl, hx, hy⟩
      have ex : x = .int (i : Nat) := (Option.some.inj hx).symm
      subst ex
      obtain ⟨b, eb, rfl⟩ := nats_at hy
      have hi2 : i < blen n := by
        have := (List.getElem?_eq_some_iff.mp eb).1
        rw [rowOf_length] at this
        exact this
      have tb : n.testBit i = decide (b = 1) := by
        rw [rowOf_at hi2] at eb
        have := Option.some.inj eb
        rw [← this]
        cases n.testBit i <;> rfl
      have sm3 : Same H (upd H2 t (.tup [.int (i : Nat), .int b])) := same_new sm nt
      have hd3 := same_upd (o := .tup [.int (i : Nat), .int b]) nt _ _ hd
      refine ⟨t, _, rfl, .inl (.inl upd_same), rfl, _, _, rfl, _, _, rfl, rfl, rfl, _, rfl, rfl, _, rfl, ?_⟩
      generalize upd H2 t (.tup [.int (i : Nat), .int b]) = H3 at sm3 hd3 ⊢
      have es := bitsI_succ n i
      have hz : (txts n i).length < sizeLine := by
        rw [txts, List.length_map]
        exact Nat.lt_of_le_of_lt (bitsI_len n i) (small1000 (by omega))
      by_cases c : b = 1
      · subst c
        have e1 : txts n (i + 1) = txts n i ++ [.str (termT i)] := by
          unfold txts
          rw [es, tb]
          simp
        refine iteT ⟨_, rfl, _, _, rfl, rfl, _, rfl, ?_⟩
        by_cases c2 : i > 1
        · rw [decide_eq_true (show ((i : Nat) : Int) > 1 by omega)]
          have hl60 : i < 2 ^ 60 := Nat.lt_of_lt_of_le (show i < 1000 by omega) (by decide)
          have ht : termT i = ("t**" : Str) ++ Str.ofString (toString (i : Int)) := by
            unfold termT
            rw [if_neg (by omega), if_neg (by omega)]
          have hl := int_text_len_1921 (log2_small hl60)
          refine iteT ⟨_, rfl, _, rfl, log2_small hl60, _, _, rfl, rfl, ?_, ?_⟩
          · have : ("t**" : Str).length = 3 := by decide +kernel
            have esz : sizeLine = 16777216 := by decide
            show ("t**" : Str).length + (Str.ofString (toString (i : Int))).length ≤ sizeLine
            omega
          · refine ⟨_, hd3, hz, same_put sm3 nD, ?_⟩
            rw [upd_same, e1, ht]
        · rw [decide_eq_false (show ¬ ((i : Nat) : Int) > 1 by omega)]
          refine iteF ⟨by show 2 ≤ sizeLine; decide, fun L nL => ?_⟩
          have hDL : D ≠ L := ne_of_none hd3 nL
          have et : atI ([.str "1", .str "t"] : List V) (i : Nat) = some (.str (termT i)) := by
            rcases (show i = 0 ∨ i = 1 by omega) with z | z <;> subst z <;> rfl
          refine ⟨_, rfl, L, _, _, _, rfl, rfl, .inl (.inl upd_same), et, _, (upd_ne hDL).trans hd3, hz, same_put (same_new sm3 nL) nD, ?_⟩
          rw [upd_same, e1]
      · have e1 : txts n (i + 1) = txts n i := by
          unfold txts
          rw [es, tb, decide_eq_false c]
          simp
        have e2 : decide (V.int (b : Int) = V.int 1) = false := decide_eq_false fun z => c (by
          have := V.int.inj z
          omega)
        rw [e2]
        refine iteF ⟨sm3, ?_⟩
        rw [e1]
        exact hd3
    · rintro H2 ⟨sm, hd⟩
      rw [row_len] at hd
      have eb : bitsI n (blen n) = bitsN n := bitsN_blen n
      refine ⟨_, rfl, Nat.zero_le _, fun z nz => ?_⟩
      have s3 : Same H2 (upd H2 z (.lst [])) := same_upd nz
      refine ⟨D, z, _, _, rfl, rfl, .inl (.inl (s3 _ _ hd)), .inl (.inl upd_same), ok_txts n _, (fun v hv => nomatch hv), _, rfl, ?_⟩
      rw [eqL_nil]
      by_cases n0 : n = 0
      · subst n0
        exact iteF (q _ (sm.trans s3))
      · have e0 : (txts n (blen n)).isEmpty = false := by
          cases e : txts n (blen n) with
          | nil =>
            have : bitsN n = [] := by
              rw [← eb]
              exact List.map_eq_nil_iff.mp e
            exact absurd (bits0.mp this) n0
          | cons x r => rfl
        rw [e0]
        refine iteT ⟨⟨_, rfl⟩, _, rfl, D, _, rfl, .inl (.inl (s3 _ _ hd)), fun p np => ?_⟩
        have er : (txts n (blen n)).reverse = ((expsN n).map termT).map V.str := by
          unfold txts expsN
          rw [eb, ← List.map_reverse, List.map_map]
          rfl
        have et2 : polyT n = Txt.join " + " ((expsN n).map termT) := by
          unfold polyT
          rw [if_neg n0]
        rw [er]
        refine ⟨_, p, _, rfl, rfl, .inl (.inl (.inl upd_same)), terms_size hn, ?_⟩
        rw [← et2]
        exact q _ ((sm.trans s3).trans (same_upd np))
end
end K61

set_option maxHeartbeats 4000000
namespace K61
open PySem PySem.Spec PyProof.Rows L2 Bx
theorem lt200 {n : Nat} (h : blen n ≤ 200) : n < 2 ^ 200 := (blen_key n 200).mpr h
theorem okV_deg {n : Nat} (h : blen n ≤ 200) : okV (.int ((blen n : Int) - 1)) := by
  show ((blen n : Int) - 1).natAbs.log2 < 1920
  have h1 : ((blen n : Int) - 1).natAbs ≤ 200 := by omega
  generalize ((blen n : Int) - 1).natAbs = k at h1
  by_cases z : k = 0
  · subst z
    decide
  · exact (Nat.log2_lt z).mpr (Nat.lt_of_le_of_lt h1 (Nat.lt_of_lt_of_le (show 200 < 2 ^ 8 by decide) (Nat.pow_le_pow_right (by decide) (by decide))))
theorem okV_pair {n : Nat} (h : blen n ≤ 200) : ∀ v ∈ [V.int (n : Nat), V.int ((blen n : Int) - 1)], okV v := fun v hv => by
  rcases List.mem_cons.mp hv with z | z
  · subst z
    exact okV_nat (lt200 h)
  · rw [List.mem_singleton.mp z]
    exact okV_deg h
theorem sOk_poly (n : Nat) : PyData.strOk (polyT n) = true := by
  unfold polyT
  split
  · exact sOk_of _
  · refine sOk_joinT _ (sOk_of _) fun x hx => ?_
    obtain ⟨e, _, rfl⟩ := List.mem_map.mp hx
    exact sOk_term e
theorem empty_app (x : Str) : Str.empty ++ x = x := by
  show (⟨#[] ++ x.cps⟩ : Str) = x
  rw [Array.empty_append]
theorem reprP_eq (n : Nat) : reprP n = (("Polynomial(" : Str) ++ polyT n) ++ (")" : Str) := by
  unfold reprP
  rw [empty_app]
theorem okD_two (n : Nat) : ∀ v ∈ [V.str (polyT n), V.str (reprP n)], okD v := fun v hv => by
  rcases List.mem_cons.mp hv with z | z
  · subst z
    exact sOk_poly n
  · rw [List.mem_singleton.mp z, reprP_eq]
    exact sOk_app (sOk_app (sOk_of _) (sOk_poly n)) (sOk_of _)
section
variable {P : Program} {w : World} {K : PySem.W.Frag} {mg : Str → Option Value} {base : Heap}
def sp_is (K : PySem.W.Frag) : Sp := fun vs H Q _ => ∃ (p r : Addr) (n : Nat), vs = [.ref p, .ref r] ∧ PolyAt K H p n ∧ H r = some (.lst (nats (rowOf n))) ∧ blen n ≤ 200 ∧ ∀ H', Same H H' → Q (.bl true) H'
theorem sc_law_is : FnScope ["_law_told", "_law_row"] ["_law_told", "_law_row"] (defScope (top 35)) := ⟨rfl, rfl, rfl, by decide +kernel, rfl, by decide +kernel, by decide +kernel⟩
theorem ok_is (T : Txt K mg) (M_Polynomial_init : FnN P w K mg base CX0 2 (He.ma K (CP K) "__init__") ["self", "word"] (sp_init K)) (M_Polynomial_word : FnN P w K mg base CX0 1 (pgA K (CP K) "word") ["self"] (sp_word K)) (M_Polynomial_degree : FnN P w K mg base CX0 2 (pgA K (CP K) "degree") ["self"] (sp_degree K))
    (M_Polynomial_str : FnN P w K mg base CX0 3 (He.ma K (CP K) "__str__") ["self"] (sp_str K)) (M_Polynomial_repr : FnN P w K mg base CX0 3 (He.ma K (CP K) "__repr__") ["self"] (sp_repr K)) (M_Polynomial_eq : FnN P w K mg base CX0 3 (He.ma K (CP K) "__eq__") ["self", "other"] (sp_eq K))
    (C_law_number : CallF P w K mg base CX0 1 "_law_number" ["_law_row"] (sp_number K)) (C_law_line : CallF P w K mg base CX0 1 "_law_line" ["_law_row"] (sp_line K)) : CallG P w K mg base CX0 6 "_law_is" ["_law_told", "_law_row"] (sp_is K) := by
  refine callG_of T.d_law_is sc_law_is (fun _ _ _ _ _ _ us hl => match us, hl with | [_, _], _ => rfl) (fun vs H Q E h => ?_) (fun cdv A outer s H vs Q E hr gd h => ?_)
  · obtain ⟨p, r, n, rfl, _⟩ := h
    rfl
  · obtain ⟨p, r, n, rfl, hP, hR, ln, q⟩ := h
    obtain ⟨dx, ep⟩ := id hP
    refine ⟨_, (pss_cons (ps_if (PW.pt (pw_or (pt_not (pt_val (pe_callB call_isi (by rfl) T.b_isinstance bb_isinstance (pa_cons (pv 0) (pa_cons (pe_gRef (by rfl) T.k_Polynomial) pa_nil))))) (pw_or1 (pt_cmpR op_ne (pe_callB (call_reprL gd hr.units) (by rfl) T.b_repr bb_repr (pa_cons (pe_lst (pa_cons (pe_prp T.o_Polynomial (pv 0) T.p_Polynomial_word M_Polynomial_word (hr.mono (by decide))) (pa_cons (pe_prp T.o_Polynomial (pv 0) T.p_Polynomial_degree M_Polynomial_degree (hr.mono (by decide))) pa_nil))) pa_nil)) (pe_callB (call_reprL gd hr.units) (by rfl) T.b_repr bb_repr (pa_cons (pe_lst (pa_cons (pe_f C_law_number (hr.mono (by decide)) (by rfl) pass0 (pa_cons (pv 1) pa_nil)) (pa_cons (pe_op op_sub (pe_callB call_len_seq (by rfl) T.b_len bb_len (pa_cons (pv 1) pa_nil)) pe_int) pa_nil))) pa_nil)) (nomark _)))))
          (pss_one (ps_ret pe_bl))
          pss_nil)
      (pss_cons (ps_if (pt_cmpR (op_neL hr.units) (pe_lst (pa_cons (pe_callTy (call_strOwn T.m_Polynomial_str M_Polynomial_str (hr.mono (by decide)) pass0) (by rfl) T.b_str bt_str (pa_cons (pv 0) pa_nil)) (pa_cons (pe_callB (call_reprOwn T.m_Polynomial_repr M_Polynomial_repr (hr.mono (by decide)) pass0) (by rfl) T.b_repr bb_repr (pa_cons (pv 0) pa_nil)) pa_nil))) (pe_lst (pa_cons (pe_f C_law_line (hr.mono (by decide)) (by rfl) pass0 (pa_cons (pv 1) pa_nil)) (pa_cons (pe_op op_add_str (pe_op op_add_str pe_str (pe_f C_law_line (hr.mono (by decide)) (by rfl) pass0 (pa_cons (pv 1) pa_nil))) pe_str) pa_nil))) (nomark _))
          (pss_one (ps_ret pe_bl))
          pss_nil)
      (pss_one (ps_ret (pe_and (pe_cmpR (op_ownEq T.m_Polynomial_eq M_Polynomial_eq (hr.mono (by decide)) pass0) (pv 0) (pe_poly T M_Polynomial_init (hr.mono (by decide)) (by rfl) (pa_cons (pe_f C_law_number (hr.mono (by decide)) (by rfl) pass0 (pa_cons (pv 1) pa_nil)) pa_nil)) (nomark _)) (pe_one (pe_cmpR (op_ownNe T.o_Polynomial T.ne_Polynomial T.m_Polynomial_eq M_Polynomial_eq (hr.mono (by decide)) pass0) (pv 0) (pe_f C_law_number (hr.mono (by decide)) (by rfl) pass0 (pa_cons (pv 1) pa_nil)) (nomark _)))))))), ?_⟩
    refine ⟨_, rfl, _, .ref (CP K), _, _, true, rfl, .own _, T.o_Polynomial.ty ep, T.o_Polynomial.self, true, rfl, iteF ?_⟩
    refine ⟨_, rfl, p, dx, _, rfl, ep, p, n, rfl, hP, _, rfl, p, dx, _, rfl, ep, p, n, rfl, hP, by show 2 ≤ sizeLine; decide, fun l nl => ?_⟩
    have s1 : Same H (upd H l (.lst [.int (n : Nat), .int ((blen n : Int) - 1)])) := same_upd nl
    refine ⟨l, _, rfl, .inl (.inl upd_same), okV_pair ln, by show 2 ≤ 1000; decide, ?_⟩
    refine ⟨_, rfl, r, _, rfl, .inl (.inl (s1 _ _ hR)), _, rfl, r, _, rfl, .inl (.inl (.inl (s1 _ _ hR))), _, _, rfl, rfl, by show 2 ≤ sizeLine; decide, fun l2 nl2 => ?_⟩
    rw [row_len, numB_rowOf]
    have s2 := s1.trans (same_upd (o := .lst [.int (n : Nat), .int ((blen n : Int) - 1)]) nl2)
    refine ⟨l2, _, rfl, .inl (.inl upd_same), okV_pair ln, by show 2 ≤ 1000; decide, ?_⟩
    generalize upd (upd H l (.lst [.int (n : Nat), .int ((blen n : Int) - 1)])) l2 (.lst [.int (n : Nat), .int ((blen n : Int) - 1)]) = H2 at s2 ⊢
    refine ⟨rfl, _, rfl, ?_⟩
    rw [show decide (V.str (reprL [.int (n : Nat), .int ((blen n : Int) - 1)]) = V.str (reprL [.int (n : Nat), .int ((blen n : Int) - 1)])) = true from decide_eq_true rfl]
    refine iteF ?_
    have hP2 := hP.same s2
    obtain ⟨dx2, ep2⟩ := id hP2
    refine ⟨_, rfl, p, dx2, _, rfl, ep2, p, n, rfl, hP2, by omega, fun H3 s3 => ⟨_, rfl, _, rfl, p, dx2, _, rfl, s3 _ _ ep2, p, n, rfl, hP2.same s3, by omega, fun H4 s4 => ⟨_, rfl, ?_⟩⟩⟩
    refine ⟨by show 2 ≤ sizeLine; decide, fun l3 nl3 => ?_⟩
    have s5 : Same H4 (upd H4 l3 (.lst [.str (polyT n), .str (reprP n)])) := same_upd nl3
    have h5 : (upd H4 l3 (.lst [.str (polyT n), .str (reprP n)])) l3 = _ := upd_same
    generalize upd H4 l3 (.lst [.str (polyT n), .str (reprP n)]) = H5 at s5 h5 ⊢
    have s25 := s3.trans (s4.trans s5)
    have s05 := s2.trans s25
    have lp := polyT_len (n := n) (by omega)
    have esz : sizeLine = 16777216 := by decide
    have lc1 : ("Polynomial(" : Str).length = 11 := by decide +kernel
    have lc2 : (")" : Str).length = 1 := by decide +kernel
    refine ⟨_, rfl, r, n, rfl, s05 _ _ hR, by omega, fun H6 s6 => ?_⟩
    refine ⟨_, rfl, r, n, rfl, s6 _ _ (s05 _ _ hR), by omega, fun H7 s7 => ⟨_, _, rfl, rfl, ?_, _, _, rfl, rfl, ?_, ?_⟩⟩
    · show ("Polynomial(" : Str).length + (polyT n).length ≤ sizeLine
      omega
    · show (("Polynomial(" : Str) ++ polyT n).length + (")" : Str).length ≤ sizeLine
      rw [Str.length_append]
      omega
    rw [← reprP_eq]
    refine ⟨by show 2 ≤ sizeLine; decide, fun l4 nl4 => ?_⟩
    have s8 : Same H7 (upd H7 l4 (.lst [.str (polyT n), .str (reprP n)])) := same_upd nl4
    have h8 : (upd H7 l4 (.lst [.str (polyT n), .str (reprP n)])) l4 = _ := upd_same
    generalize upd H7 l4 (.lst [.str (polyT n), .str (reprP n)]) = H8 at s8 h8 ⊢
    have s58 := s6.trans (s7.trans s8)
    have s08 := s05.trans s58
    refine ⟨l3, l4, _, _, rfl, rfl, .inl (.inl (s58 _ _ h5)), .inl (.inl h8), okD_two n, okD_two n, _, rfl, ?_⟩
    rw [eqL_self (okD_two n)]
    refine iteF ?_
    have hP8 := hP.same s08
    obtain ⟨dx8, ep8⟩ := id hP8
    refine ⟨_, rfl, _, rfl, r, _, rfl, .inl (.inl (s08 _ _ hR)), n, by rw [numB_rowOf], fun o H9 s9 no ho => ?_⟩
    have hP9 := hP8.same s9
    obtain ⟨dx9, ep9⟩ := id hP9
    obtain ⟨dy, eo⟩ := id ho
    refine ⟨p, dx9, _, _, rfl, ep9, T.o_Polynomial.ty eo, T.o_Polynomial.nfSelf, p, n, _, rfl, hP9, .inl ⟨o, n, rfl, ho, ?_⟩⟩
    rw [decide_eq_true (rfl : n = n)]
    have s09 := s08.trans s9
    refine ⟨true, rfl, iteT ⟨_, rfl, _, rfl, r, _, rfl, .inl (.inl (s09 _ _ hR)), p, dx9, _, _, rfl, ep9, .base (.int _), T.o_Polynomial.nf "int" (by decide), p, n, _, rfl, hP9, .inr ⟨_, .base (.int _), T.o_Polynomial.on "int" (by decide), false, rfl, q _ s09⟩⟩⟩
end
end K61

set_option maxHeartbeats 4000000
namespace K61
open PySem PySem.Spec PyProof.Rows L2 Bx
theorem pgcdF_blen {m : Nat} : ∀ (n a b : Nat), blen a ≤ m → blen b ≤ m → blen (pgcdF n a b) ≤ m
  | 0, a, b, h1, h2 => h1
  | n + 1, a, b, h1, h2 => by
    unfold pgcdF
    split
    · exact h1
    · rename_i c
      have := pdiv_rem_lt (a := a) c
      exact pgcdF_blen n _ _ h2 (by omega)
theorem pgcd_blen {a b m : Nat} (h1 : blen a ≤ m) (h2 : blen b ≤ m) : blen (pgcd a b) ≤ m := pgcdF_blen _ _ _ h1 h2
theorem rowOf_inj {a b : Nat} : rowOf a = rowOf b ↔ a = b := ⟨fun h => by
  have := congrArg numB h
  rw [numB_rowOf, numB_rowOf] at this
  exact this, fun h => by rw [h]⟩
theorem eqL_rows (a b : Nat) : eqL (nats (rowOf a)) (nats (rowOf b)) = decide (a = b) := by
  rw [eqL_nats]
  exact decide_eq_decide.mpr rowOf_inj
section
variable {P : Program} {w : World} {K : PySem.W.Frag} {mg : Str → Option Value} {base : Heap}
variable (T : Txt K mg) (M_Polynomial_init : FnN P w K mg base CX0 2 (He.ma K (CP K) "__init__") ["self", "word"] (sp_init K)) (M_Polynomial_add : FnN P w K mg base CX0 5 (He.ma K (CP K) "__add__") ["self", "other"] (sp_bin K small (· ^^^ ·))) (M_Polynomial_mul : FnN P w K mg base CX0 5 (He.ma K (CP K) "__mul__") ["self", "other"] (sp_bin K small pmul))
  (M_Polynomial_floordiv : FnN P w K mg base CX0 6 (He.ma K (CP K) "__floordiv__") ["self", "other"] (sp_bin K divs fun a b => (pdiv a b).1)) (M_Polynomial_mod : FnN P w K mg base CX0 6 (He.ma K (CP K) "__mod__") ["self", "other"] (sp_bin K divs fun a b => (pdiv a b).2))
  (M_Polynomial_gcd : FnN P w K mg base CX0 5 (He.ma K (CP K) "gcd") ["self", "other"] (sp_bin K small pgcd)) (M_Polynomial_power_mod : FnN P w K mg base CX0 6 (He.ma K (CP K) "power_mod") ["self", "exponent", "modulus"] (sp_power_mod K)) (M_Polynomial_eq : FnN P w K mg base CX0 3 (He.ma K (CP K) "__eq__") ["self", "other"] (sp_eq K))
  (C_law_draw : CallF P w K mg base CX0 1 "_law_draw" ["_law_pot_here", "_law_many"] sp_draw) (C_law_bare : CallF P w K mg base CX0 1 "_law_bare" ["_law_row"] (sp_bare K)) (C_law_list : CallF P w K mg base CX0 2 "_law_list" ["_law_pot_here", "_law_most"] sp_list) (C_law_number : CallF P w K mg base CX0 1 "_law_number" ["_law_row"] (sp_number K))
  (C_law_sum : CallF P w K mg base CX0 2 "_law_sum" ["_law_one", "_law_two"] sp_sum) (C_law_product : CallF P w K mg base CX0 2 "_law_product" ["_law_one", "_law_two"] sp_product) (C_law_divided : CallF P w K mg base CX0 2 "_law_divided" ["_law_one", "_law_two"] sp_divided)
  (C_law_common : CallF P w K mg base CX0 3 "_law_common" ["_law_one", "_law_two"] sp_common) (C_law_power : CallF P w K mg base CX0 3 "_law_power" ["_law_row", "_law_many", "_law_by"] sp_power) (C_law_is : CallG P w K mg base CX0 6 "_law_is" ["_law_told", "_law_row"] (sp_is K))
def sp_pair : Sp := fun vs H Q _ => ∃ (x y : Addr) (a b : Nat), vs = [.ref x, .ref y] ∧ H x = some (.lst (nats (rowOf a))) ∧ H y = some (.lst (nats (rowOf b))) ∧ blen a ≤ 90 ∧ blen b ≤ 90 ∧ ∀ H', Same H H' → Q (.bl true) H'
theorem sc_law_pair_right : FnScope ["_law_one", "_law_two", "_law_first", "_law_second", "_law_parts", "_law_rest"] ["_law_one", "_law_two"] (defScope (top 36)) := ⟨rfl, rfl, rfl, by decide +kernel, rfl, by decide +kernel, by decide +kernel⟩
include T M_Polynomial_init M_Polynomial_add M_Polynomial_mul M_Polynomial_floordiv M_Polynomial_mod M_Polynomial_gcd M_Polynomial_eq C_law_number C_law_sum C_law_product C_law_divided C_law_common C_law_is in
theorem ok_pair : CallG P w K mg base CX0 7 "_law_pair_right" ["_law_one", "_law_two"] sp_pair := by
  refine callG_of T.d_law_pair_right sc_law_pair_right (fun _ _ _ _ _ _ us hl => match us, hl with | [_, _], _ => rfl) (fun vs H Q E h => ?_) (fun cdv A outer s H vs Q E hr gd h => ?_)
  · obtain ⟨x, y, a, b, rfl, _⟩ := h
    rfl
  · obtain ⟨x, y, a, b, rfl, hx, hy, la, lb, q⟩ := h
    refine ⟨_, (pss_cons (ps_par (i := 2) (j := 3) (by rfl) sc_law_pair_right.nd rfl rfl (by decide) rfl rfl (pa_cons (pe_poly T M_Polynomial_init (hr.mono (by decide)) (by rfl) (pa_cons (pe_f C_law_number (hr.mono (by decide)) (by rfl) pass0 (pa_cons (pv 0) pa_nil)) pa_nil)) (pa_cons (pe_poly T M_Polynomial_init (hr.mono (by decide)) (by rfl) (pa_cons (pe_f C_law_number (hr.mono (by decide)) (by rfl) pass0 (pa_cons (pv 1) pa_nil)) pa_nil)) pa_nil)) (by rfl))
      (pss_cons (ps_if (PW.pt (pw_or (pt_not (pt_val (pe_fg C_law_is (hr.mono (by decide)) gd (by rfl) pass0 (pa_cons (pe_op (op_own2 T.o_Polynomial T.m_Polynomial_add M_Polynomial_add (hr.mono (by decide)) pass0) (pv 2) (pv 3)) (pa_cons (pe_f C_law_sum (hr.mono (by decide)) (by rfl) pass0 (pa_cons (pv 0) (pa_cons (pv 1) pa_nil))) pa_nil))))) (pw_or1 (pt_not (pt_val (pe_fg C_law_is (hr.mono (by decide)) gd (by rfl) pass0 (pa_cons (pe_op (op_own2 T.o_Polynomial T.m_Polynomial_mul M_Polynomial_mul (hr.mono (by decide)) pass0) (pv 2) (pv 3)) (pa_cons (pe_f C_law_product (hr.mono (by decide)) (by rfl) pass0 (pa_cons (pv 0) (pa_cons (pv 1) pa_nil))) pa_nil))))))))
          (pss_one (ps_ret pe_bl))
          pss_nil)
      (pss_cons (ps_if (pt_cmpR (op_neNil hr.units) (pv 1) (pe_lst pa_nil) (nomark _))
          (pss_cons (ps_asg (pe_f C_law_divided (hr.mono (by decide)) (by rfl) pass0 (pa_cons (pv 0) (pa_cons (pv 1) pa_nil))) (pg_tup (by rfl) (pgs_cons (pg_name (i := 4) sc_law_pair_right.nd rfl (.inl rfl)) (pgs_cons (pg_name (i := 5) sc_law_pair_right.nd rfl (.inl rfl)) pgs_nil))))
          (pss_one (ps_if (PW.pt (pw_or (pt_not (pt_val (pe_fg C_law_is (hr.mono (by decide)) gd (by rfl) pass0 (pa_cons (pe_op (op_own2 T.o_Polynomial T.m_Polynomial_floordiv M_Polynomial_floordiv (hr.mono (by decide)) pass0) (pv 2) (pv 3)) (pa_cons (pv 4) pa_nil))))) (pw_or1 (pt_not (pt_val (pe_fg C_law_is (hr.mono (by decide)) gd (by rfl) pass0 (pa_cons (pe_op (op_own2 T.o_Polynomial T.m_Polynomial_mod M_Polynomial_mod (hr.mono (by decide)) pass0) (pv 2) (pv 3)) (pa_cons (pv 5) pa_nil))))))))
              (pss_one (ps_ret pe_bl))
              pss_nil)))
          pss_nil)
      (pss_cons (ps_if (PW.pt (pw_or (pt_not (pt_val (pe_fg C_law_is (hr.mono (by decide)) gd (by rfl) pass0 (pa_cons (pe_mth T.o_Polynomial (pv 2) T.m_Polynomial_gcd M_Polynomial_gcd (hr.mono (by decide)) pass0 (pa_cons (pv 3) pa_nil)) (pa_cons (pe_f C_law_common (hr.mono (by decide)) (by rfl) pass0 (pa_cons (pv 0) (pa_cons (pv 1) pa_nil))) pa_nil))))) (pw_or1 (pt_not (pt_val (pe_fg C_law_is (hr.mono (by decide)) gd (by rfl) pass0 (pa_cons (pe_mth T.o_Polynomial (pv 3) T.m_Polynomial_gcd M_Polynomial_gcd (hr.mono (by decide)) pass0 (pa_cons (pv 2) pa_nil)) (pa_cons (pe_f C_law_common (hr.mono (by decide)) (by rfl) pass0 (pa_cons (pv 1) (pa_cons (pv 0) pa_nil))) pa_nil))))))))
          (pss_one (ps_ret pe_bl))
          pss_nil)
      (pss_cons (ps_if (PW.pt (pw_or (pt_cmpR op_ne (pe_cmpR (op_ownEq T.m_Polynomial_eq M_Polynomial_eq (hr.mono (by decide)) pass0) (pv 2) (pv 3) (nomark _)) (pe_cmpR (op_eqL hr.units) (pv 0) (pv 1) (nomark _)) (nomark _)) (pw_or1 (pt_cmpR op_ne (pe_cmpR (op_ownNe T.o_Polynomial T.ne_Polynomial T.m_Polynomial_eq M_Polynomial_eq (hr.mono (by decide)) pass0) (pv 2) (pv 3) (nomark _)) (pe_cmpR (op_neL hr.units) (pv 0) (pv 1) (nomark _)) (nomark _)))))
          (pss_one (ps_ret pe_bl))
          pss_nil)
      (pss_one (ps_ret (pe_and (pe_fg C_law_is (hr.mono (by decide)) gd (by rfl) pass0 (pa_cons (pv 2) (pa_cons (pv 0) pa_nil))) (pe_one (pe_fg C_law_is (hr.mono (by decide)) gd (by rfl) pass0 (pa_cons (pv 3) (pa_cons (pv 1) pa_nil)))))))))))), ?_⟩
    have lr : ∀ n, blen n ≤ 90 → (rowOf n).length ≤ 1000 := fun n h => by
      rw [rowOf_length]
      omega
    have cb : small a b := ⟨by omega, by omega⟩
    refine ⟨_, rfl, x, _, rfl, .inl (.inl hx), a, by rw [numB_rowOf], fun p1 H1 s1 n1 hp1 => ?_⟩
    refine ⟨_, rfl, y, _, rfl, .inl (.inl (s1 _ _ hy)), b, by rw [numB_rowOf], fun p2 H2 s2 n2 hp2 => ?_⟩
    have hp1 := hp1.same s2
    have s02 := s1.trans s2
    clear s1 s2 n2
    have hx := s02 _ _ hx
    have hy := s02 _ _ hy
    obtain ⟨d1, e1⟩ := id hp1
    obtain ⟨d2, e2⟩ := id hp2
    refine ⟨_, _, rfl, ?_⟩
    -- the sum
    refine ⟨_, rfl, _, rfl, p1, p2, d1, _, d2, _, rfl, rfl, e1, e2, p1, p2, a, b, rfl, hp1, hp2, cb, fun q3 H3 s3 n3 hq3 => ?_⟩
    refine ⟨_, rfl, _, rfl, x, y, rowOf a, rowOf b, rfl, s3 _ _ hx, s3 _ _ hy, rowOf_bit, rowOf_bit, lr a la, lr b lb, fun r4 H4 s4 n4 hr4 => ?_⟩
    dsimp only at hr4
    rw [numB_rowOf, numB_rowOf] at hr4
    refine ⟨q3, r4, a ^^^ b, rfl, hq3.same s4, hr4, Nat.le_trans (blen_xor la lb) (by decide), fun H5 s5 => ⟨true, rfl, iteF ?_⟩⟩
    have s25 := s3.trans (s4.trans s5)
    -- the product
    refine ⟨_, rfl, _, rfl, p1, p2, d1, _, d2, _, rfl, rfl, s25 _ _ e1, s25 _ _ e2, p1, p2, a, b, rfl, hp1.same s25, hp2.same s25, cb, fun q6 H6 s6 n6 hq6 => ?_⟩
    have s26 := s25.trans s6
    refine ⟨_, rfl, _, rfl, x, y, rowOf a, rowOf b, rfl, s26 _ _ hx, s26 _ _ hy, rowOf_bit, rowOf_bit, lr a la, lr b lb, fun r7 H7 s7 n7 hr7 => ?_⟩
    dsimp only at hr7
    rw [numB_rowOf, numB_rowOf] at hr7
    refine ⟨q6, r7, pmul a b, rfl, hq6.same s7, hr7, pmul_blen (by omega), fun H8 s8 => ⟨true, rfl, iteF ?_⟩⟩
    have s28 := s26.trans (s7.trans s8)
    refine ⟨_, rfl, Nat.zero_le _, fun z nz => ?_⟩
    have s9 : Same H8 (upd H8 z (.lst [])) := same_upd nz
    have s29 := s28.trans s9
    refine ⟨y, _, z, rfl, rfl, .inl (.inl (s29 _ _ hy)), .inl (.inl upd_same), ok_row, _, rfl, ?_⟩
    rw [row_empty]
    by_cases b0 : b = 0
    · rw [decide_eq_true b0]
      refine iteF ?_
      have st := s29
      refine ⟨_, rfl, p1, d1, _, rfl, st _ _ e1, rfl, _, rfl, p1, p2, a, b, rfl, hp1.same st, hp2.same st, cb, fun qa Ha sa na hqa => ?_⟩
      have sta := st.trans sa
      refine ⟨_, rfl, _, rfl, x, y, a, b, rfl, sta _ _ hx, sta _ _ hy, by omega, by omega, fun rb Hb sb hrb => ?_⟩
      refine ⟨qa, rb, pgcd a b, rfl, hqa.same sb, hrb, pgcd_blen (by omega) (by omega), fun Hc sc => ⟨true, rfl, iteF ?_⟩⟩
      have stc := sta.trans (sb.trans sc)
      refine ⟨_, rfl, p2, d2, _, rfl, stc _ _ e2, rfl, _, rfl, p2, p1, b, a, rfl, hp2.same stc, hp1.same stc, ⟨cb.2, cb.1⟩, fun qd Hd sd nd hqd => ?_⟩
      have std := stc.trans sd
      refine ⟨_, rfl, _, rfl, y, x, b, a, rfl, std _ _ hy, std _ _ hx, by omega, by omega, fun re He se hre => ?_⟩
      refine ⟨qd, re, pgcd b a, rfl, hqd.same se, hre, pgcd_blen (by omega) (by omega), fun Hf sf => ⟨true, rfl, iteF ?_⟩⟩
      have stf := std.trans (se.trans sf)
      refine ⟨_, rfl, _, rfl, p1, d1, _, _, rfl, stf _ _ e1, T.o_Polynomial.ty (stf _ _ e2), T.o_Polynomial.nfSelf, p1, a, _, rfl, hp1.same stf, .inl ⟨p2, b, rfl, hp2.same stf, ?_⟩⟩
      refine ⟨_, rfl, _, rfl, x, y, _, _, rfl, rfl, .inl (.inl (stf _ _ hx)), .inl (.inl (stf _ _ hy)), okD_nats _, okD_nats _, ?_⟩
      rw [eqL_rows]
      refine ⟨rfl, _, rfl, ?_⟩
      rw [show decide (V.bl (decide (a = b)) = V.bl (decide (a = b))) = true from decide_eq_true rfl]
      refine iteF ?_
      refine ⟨_, rfl, _, rfl, p1, d1, _, _, rfl, stf _ _ e1, T.o_Polynomial.ty (stf _ _ e2), T.o_Polynomial.nfSelf, p1, a, _, rfl, hp1.same stf, .inl ⟨p2, b, rfl, hp2.same stf, _, rfl, ?_⟩⟩
      refine ⟨_, rfl, _, rfl, x, y, _, _, rfl, rfl, .inl (.inl (stf _ _ hx)), .inl (.inl (stf _ _ hy)), okD_nats _, okD_nats _, ?_⟩
      rw [eqL_rows]
      refine ⟨rfl, _, rfl, ?_⟩
      rw [show decide (V.bl (!decide (a = b)) = V.bl (!decide (a = b))) = true from decide_eq_true rfl]
      refine iteF ?_
      refine ⟨_, rfl, _, rfl, p1, x, a, rfl, hp1.same stf, stf _ _ hx, by omega, fun Hg sg => ⟨true, rfl, iteT ?_⟩⟩
      have stg := stf.trans sg
      exact ⟨_, rfl, _, rfl, p2, y, b, rfl, hp2.same stg, stg _ _ hy, by omega, fun Hh sh => q Hh (s02.trans (stg.trans sh))⟩
    · rw [decide_eq_false b0]
      have dv : divs a b := ⟨by omega, by omega, b0⟩
      refine iteT ⟨_, rfl, _, rfl, x, y, a, b, rfl, s29 _ _ hx, s29 _ _ hy, b0, by omega, by omega, fun t u v Hj sj ht hu hv => ?_⟩
      have s2j := s29.trans sj
      refine ⟨t, _, rfl, .inl (.inl ht), rfl, _, _, rfl, _, _, rfl, rfl, ?_⟩
      refine ⟨_, rfl, _, rfl, p1, p2, d1, _, d2, _, rfl, rfl, s2j _ _ e1, s2j _ _ e2, p1, p2, a, b, rfl, hp1.same s2j, hp2.same s2j, dv, fun qk Hk sk nk hqk => ?_⟩
      refine ⟨_, rfl, qk, u, (pdiv a b).1, rfl, hqk, sk _ _ hu, Nat.le_trans (pdiv_q_blen a b) (by omega), fun Hl sl => ⟨true, rfl, iteF ?_⟩⟩
      have sjl := sk.trans sl
      have s2l := s2j.trans sjl
      refine ⟨_, rfl, _, rfl, p1, p2, d1, _, d2, _, rfl, rfl, s2l _ _ e1, s2l _ _ e2, p1, p2, a, b, rfl, hp1.same s2l, hp2.same s2l, dv, fun qm Hm sm nm hqm => ?_⟩
      have rl := pdiv_rem_lt (a := a) b0
      refine ⟨_, rfl, qm, v, (pdiv a b).2, rfl, hqm, sm _ _ (sjl _ _ hv), by omega, fun Hn sn => ⟨true, rfl, iteF ?_⟩⟩
      have st := s2l.trans (sm.trans sn)
      refine ⟨_, rfl, p1, d1, _, rfl, st _ _ e1, rfl, _, rfl, p1, p2, a, b, rfl, hp1.same st, hp2.same st, cb, fun qa Ha sa na hqa => ?_⟩
      have sta := st.trans sa
      refine ⟨_, rfl, _, rfl, x, y, a, b, rfl, sta _ _ hx, sta _ _ hy, by omega, by omega, fun rb Hb sb hrb => ?_⟩
      refine ⟨qa, rb, pgcd a b, rfl, hqa.same sb, hrb, pgcd_blen (by omega) (by omega), fun Hc sc => ⟨true, rfl, iteF ?_⟩⟩
      have stc := sta.trans (sb.trans sc)
      refine ⟨_, rfl, p2, d2, _, rfl, stc _ _ e2, rfl, _, rfl, p2, p1, b, a, rfl, hp2.same stc, hp1.same stc, ⟨cb.2, cb.1⟩, fun qd Hd sd nd hqd => ?_⟩
      have std := stc.trans sd
      refine ⟨_, rfl, _, rfl, y, x, b, a, rfl, std _ _ hy, std _ _ hx, by omega, by omega, fun re He se hre => ?_⟩
      refine ⟨qd, re, pgcd b a, rfl, hqd.same se, hre, pgcd_blen (by omega) (by omega), fun Hf sf => ⟨true, rfl, iteF ?_⟩⟩
      have stf := std.trans (se.trans sf)
      refine ⟨_, rfl, _, rfl, p1, d1, _, _, rfl, stf _ _ e1, T.o_Polynomial.ty (stf _ _ e2), T.o_Polynomial.nfSelf, p1, a, _, rfl, hp1.same stf, .inl ⟨p2, b, rfl, hp2.same stf, ?_⟩⟩
      refine ⟨_, rfl, _, rfl, x, y, _, _, rfl, rfl, .inl (.inl (stf _ _ hx)), .inl (.inl (stf _ _ hy)), okD_nats _, okD_nats _, ?_⟩
      rw [eqL_rows]
      refine ⟨rfl, _, rfl, ?_⟩
      rw [show decide (V.bl (decide (a = b)) = V.bl (decide (a = b))) = true from decide_eq_true rfl]
      refine iteF ?_
      refine ⟨_, rfl, _, rfl, p1, d1, _, _, rfl, stf _ _ e1, T.o_Polynomial.ty (stf _ _ e2), T.o_Polynomial.nfSelf, p1, a, _, rfl, hp1.same stf, .inl ⟨p2, b, rfl, hp2.same stf, _, rfl, ?_⟩⟩
      refine ⟨_, rfl, _, rfl, x, y, _, _, rfl, rfl, .inl (.inl (stf _ _ hx)), .inl (.inl (stf _ _ hy)), okD_nats _, okD_nats _, ?_⟩
      rw [eqL_rows]
      refine ⟨rfl, _, rfl, ?_⟩
      rw [show decide (V.bl (!decide (a = b)) = V.bl (!decide (a = b))) = true from decide_eq_true rfl]
      refine iteF ?_
      refine ⟨_, rfl, _, rfl, p1, x, a, rfl, hp1.same stf, stf _ _ hx, by omega, fun Hg sg => ⟨true, rfl, iteT ?_⟩⟩
      have stg := stf.trans sg
      exact ⟨_, rfl, _, rfl, p2, y, b, rfl, hp2.same stg, stg _ _ hy, by omega, fun Hh sh => q Hh (s02.trans (stg.trans sh))⟩
end
end K61

set_option maxHeartbeats 4000000
namespace K61
open PySem PySem.Spec PyProof.Rows L2 Bx
section
variable {P : Program} {w : World} {K : PySem.W.Frag} {mg : Str → Option Value} {base : Heap}
variable (T : Txt K mg) (M_Polynomial_init : FnN P w K mg base CX0 2 (He.ma K (CP K) "__init__") ["self", "word"] (sp_init K)) (M_Polynomial_add : FnN P w K mg base CX0 5 (He.ma K (CP K) "__add__") ["self", "other"] (sp_bin K small (· ^^^ ·))) (M_Polynomial_mul : FnN P w K mg base CX0 5 (He.ma K (CP K) "__mul__") ["self", "other"] (sp_bin K small pmul))
  (M_Polynomial_floordiv : FnN P w K mg base CX0 6 (He.ma K (CP K) "__floordiv__") ["self", "other"] (sp_bin K divs fun a b => (pdiv a b).1)) (M_Polynomial_mod : FnN P w K mg base CX0 6 (He.ma K (CP K) "__mod__") ["self", "other"] (sp_bin K divs fun a b => (pdiv a b).2))
  (M_Polynomial_gcd : FnN P w K mg base CX0 5 (He.ma K (CP K) "gcd") ["self", "other"] (sp_bin K small pgcd)) (M_Polynomial_power_mod : FnN P w K mg base CX0 6 (He.ma K (CP K) "power_mod") ["self", "exponent", "modulus"] (sp_power_mod K)) (M_Polynomial_eq : FnN P w K mg base CX0 3 (He.ma K (CP K) "__eq__") ["self", "other"] (sp_eq K))
  (C_law_draw : CallF P w K mg base CX0 1 "_law_draw" ["_law_pot_here", "_law_many"] sp_draw) (C_law_bare : CallF P w K mg base CX0 1 "_law_bare" ["_law_row"] (sp_bare K)) (C_law_list : CallF P w K mg base CX0 2 "_law_list" ["_law_pot_here", "_law_most"] sp_list) (C_law_number : CallF P w K mg base CX0 1 "_law_number" ["_law_row"] (sp_number K))
  (C_law_sum : CallF P w K mg base CX0 2 "_law_sum" ["_law_one", "_law_two"] sp_sum) (C_law_product : CallF P w K mg base CX0 2 "_law_product" ["_law_one", "_law_two"] sp_product) (C_law_divided : CallF P w K mg base CX0 2 "_law_divided" ["_law_one", "_law_two"] sp_divided)
  (C_law_common : CallF P w K mg base CX0 3 "_law_common" ["_law_one", "_law_two"] sp_common) (C_law_power : CallF P w K mg base CX0 3 "_law_power" ["_law_row", "_law_many", "_law_by"] sp_power) (C_law_is : CallG P w K mg base CX0 6 "_law_is" ["_law_told", "_law_row"] (sp_is K))
theorem sc_law_great_right : FnScope ["_law_one", "_law_two", "_law_first", "_law_second", "_law_parts", "_law_rest"] ["_law_one", "_law_two"] (defScope (top 38)) := ⟨rfl, rfl, rfl, by decide +kernel, rfl, by decide +kernel, by decide +kernel⟩
include T M_Polynomial_init M_Polynomial_mul M_Polynomial_floordiv M_Polynomial_mod C_law_number C_law_product C_law_divided C_law_is in
theorem ok_great : CallG P w K mg base CX0 7 "_law_great_right" ["_law_one", "_law_two"] sp_pair := by
  refine callG_of T.d_law_great_right sc_law_great_right (fun _ _ _ _ _ _ us hl => match us, hl with | [_, _], _ => rfl) (fun vs H Q E h => ?_) (fun cdv A outer s H vs Q E hr gd h => ?_)
  · obtain ⟨x, y, a, b, rfl, _⟩ := h
    rfl
  · obtain ⟨x, y, a, b, rfl, hx, hy, la, lb, q⟩ := h
    refine ⟨_, (pss_cons (ps_par (i := 2) (j := 3) (by rfl) sc_law_great_right.nd rfl rfl (by decide) rfl rfl (pa_cons (pe_poly T M_Polynomial_init (hr.mono (by decide)) (by rfl) (pa_cons (pe_f C_law_number (hr.mono (by decide)) (by rfl) pass0 (pa_cons (pv 0) pa_nil)) pa_nil)) (pa_cons (pe_poly T M_Polynomial_init (hr.mono (by decide)) (by rfl) (pa_cons (pe_f C_law_number (hr.mono (by decide)) (by rfl) pass0 (pa_cons (pv 1) pa_nil)) pa_nil)) pa_nil)) (by rfl))
      (pss_cons (ps_if (pt_not (pt_val (pe_fg C_law_is (hr.mono (by decide)) gd (by rfl) pass0 (pa_cons (pe_op (op_own2 T.o_Polynomial T.m_Polynomial_mul M_Polynomial_mul (hr.mono (by decide)) pass0) (pv 2) (pv 3)) (pa_cons (pe_f C_law_product (hr.mono (by decide)) (by rfl) pass0 (pa_cons (pv 0) (pa_cons (pv 1) pa_nil))) pa_nil)))))
          (pss_one (ps_ret pe_bl))
          pss_nil)
      (pss_cons (ps_if (pt_cmpR (op_eqNil hr.units) (pv 1) (pe_lst pa_nil) (nomark _))
          (pss_one (ps_ret pe_bl))
          pss_nil)
      (pss_cons (ps_asg (pe_f C_law_divided (hr.mono (by decide)) (by rfl) pass0 (pa_cons (pv 0) (pa_cons (pv 1) pa_nil))) (pg_tup (by rfl) (pgs_cons (pg_name (i := 4) sc_law_great_right.nd rfl (.inl rfl)) (pgs_cons (pg_name (i := 5) sc_law_great_right.nd rfl (.inl rfl)) pgs_nil))))
      (pss_one (ps_ret (pe_and (pe_fg C_law_is (hr.mono (by decide)) gd (by rfl) pass0 (pa_cons (pe_op (op_own2 T.o_Polynomial T.m_Polynomial_floordiv M_Polynomial_floordiv (hr.mono (by decide)) pass0) (pv 2) (pv 3)) (pa_cons (pv 4) pa_nil))) (pe_one (pe_fg C_law_is (hr.mono (by decide)) gd (by rfl) pass0 (pa_cons (pe_op (op_own2 T.o_Polynomial T.m_Polynomial_mod M_Polynomial_mod (hr.mono (by decide)) pass0) (pv 2) (pv 3)) (pa_cons (pv 5) pa_nil))))))))))), ?_⟩
    have lr : ∀ n, blen n ≤ 90 → (rowOf n).length ≤ 1000 := fun n h => by
      rw [rowOf_length]
      omega
    have cb : small a b := ⟨by omega, by omega⟩
    refine ⟨_, rfl, x, _, rfl, .inl (.inl hx), a, by rw [numB_rowOf], fun p1 H1 s1 n1 hp1 => ?_⟩
    refine ⟨_, rfl, y, _, rfl, .inl (.inl (s1 _ _ hy)), b, by rw [numB_rowOf], fun p2 H2 s2 n2 hp2 => ?_⟩
    have hp1 := hp1.same s2
    have s02 := s1.trans s2
    clear s1 s2 n2
    have hx := s02 _ _ hx
    have hy := s02 _ _ hy
    obtain ⟨d1, e1⟩ := id hp1
    obtain ⟨d2, e2⟩ := id hp2
    refine ⟨_, _, rfl, ?_⟩
    refine ⟨_, rfl, _, rfl, p1, p2, d1, _, d2, _, rfl, rfl, e1, e2, p1, p2, a, b, rfl, hp1, hp2, cb, fun q6 H6 s26 n6 hq6 => ?_⟩
    refine ⟨_, rfl, _, rfl, x, y, rowOf a, rowOf b, rfl, s26 _ _ hx, s26 _ _ hy, rowOf_bit, rowOf_bit, lr a la, lr b lb, fun r7 H7 s7 n7 hr7 => ?_⟩
    dsimp only at hr7
    rw [numB_rowOf, numB_rowOf] at hr7
    refine ⟨q6, r7, pmul a b, rfl, hq6.same s7, hr7, pmul_blen (by omega), fun H8 s8 => ⟨true, rfl, iteF ?_⟩⟩
    have s28 := s26.trans (s7.trans s8)
    refine ⟨_, rfl, Nat.zero_le _, fun z nz => ?_⟩
    have s9 : Same H8 (upd H8 z (.lst [])) := same_upd nz
    have s29 := s28.trans s9
    refine ⟨y, _, z, rfl, rfl, .inl (.inl (s29 _ _ hy)), .inl (.inl upd_same), ok_row, _, rfl, ?_⟩
    rw [row_empty]
    by_cases b0 : b = 0
    · rw [decide_eq_true b0]
      exact iteT (q _ (s02.trans s29))
    · rw [decide_eq_false b0]
      have dv : divs a b := ⟨by omega, by omega, b0⟩
      refine iteF ⟨_, rfl, _, rfl, x, y, a, b, rfl, s29 _ _ hx, s29 _ _ hy, b0, by omega, by omega, fun t u v Hj sj ht hu hv => ?_⟩
      have s2j := s29.trans sj
      refine ⟨t, _, rfl, .inl (.inl ht), rfl, _, _, rfl, _, _, rfl, rfl, ?_⟩
      refine ⟨_, rfl, _, rfl, p1, p2, d1, _, d2, _, rfl, rfl, s2j _ _ e1, s2j _ _ e2, p1, p2, a, b, rfl, hp1.same s2j, hp2.same s2j, dv, fun qk Hk sk nk hqk => ?_⟩
      refine ⟨_, rfl, qk, u, (pdiv a b).1, rfl, hqk, sk _ _ hu, Nat.le_trans (pdiv_q_blen a b) (by omega), fun Hl sl => ⟨true, rfl, iteT ?_⟩⟩
      have sjl := sk.trans sl
      have s2l := s2j.trans sjl
      refine ⟨_, rfl, _, rfl, p1, p2, d1, _, d2, _, rfl, rfl, s2l _ _ e1, s2l _ _ e2, p1, p2, a, b, rfl, hp1.same s2l, hp2.same s2l, dv, fun qm Hm sm nm hqm => ?_⟩
      have rl := pdiv_rem_lt (a := a) b0
      exact ⟨_, rfl, qm, v, (pdiv a b).2, rfl, hqm, sm _ _ (sjl _ _ hv), by omega, fun Hn sn => q _ (s02.trans (s2l.trans (sm.trans sn)))⟩
theorem powN_blen {m k : Nat} (hm : m ≠ 0) (h2 : blen m ≤ k) : ∀ (n f b e : Nat), blen f ≤ k → blen (powN m n f b e) ≤ k
  | 0, f, b, e, h => h
  | n + 1, f, b, e, h => by
    unfold powN
    split
    · exact h
    · refine powN_blen hm h2 n _ _ _ ?_
      unfold powStep
      split
      · have := pdiv_rem_lt (a := pmul f b) hm
        omega
      · exact h
theorem ppow_blen {m f b e k : Nat} (hm : m ≠ 0) (h2 : blen m ≤ k) (h : blen f ≤ k) : blen (ppow m f b e) ≤ k := powN_blen hm h2 _ _ _ _ h
theorem sc_law_powers_right : FnScope ["_law_pot_here", "_law_row", "_law_by", "_law_many", "_law_told"] ["_law_pot_here"] (defScope (top 37)) := ⟨rfl, rfl, rfl, by decide +kernel, rfl, by decide +kernel, by decide +kernel⟩
include T M_Polynomial_init M_Polynomial_power_mod C_law_draw C_law_list C_law_number C_law_power C_law_is in
theorem ok_powers : CallG P w K mg base CX0 7 "_law_powers_right" ["_law_pot_here"] sp_right := by
  refine callG_of T.d_law_powers_right sc_law_powers_right (fun _ _ _ _ _ _ us hl => match us, hl with | [_], _ => rfl) (fun vs H Q E h => ?_) (fun cdv A outer s H vs Q E hr gd h => ?_)
  · obtain ⟨p, rfl, _⟩ := h
    rfl
  · obtain ⟨p, rfl, hp, q⟩ := h
    refine ⟨_, (pss_cons (ps_par (i := 1) (j := 2) (by rfl) sc_law_powers_right.nd rfl rfl (by decide) rfl rfl (pa_cons (pe_f C_law_list (hr.mono (by decide)) (by rfl) pass0 (pa_cons (pv 0) (pa_cons pe_int pa_nil))) (pa_cons (pe_op op_cat (pe_f C_law_list (hr.mono (by decide)) (by rfl) pass0 (pa_cons (pv 0) (pa_cons pe_int pa_nil))) (pe_lst (pa_cons pe_int pa_nil))) pa_nil)) (by rfl))
      (pss_cons (ps_set (i := 3) sc_law_powers_right.nd rfl (.inl rfl) (pe_f C_law_draw (hr.mono (by decide)) (by rfl) pass0 (pa_cons (pv 0) (pa_cons pe_int pa_nil))))
      (pss_cons (ps_if (PW.pt (pw_and (pt_cmpR op_lt (pe_callB call_len_seq (by rfl) T.b_len bb_len (pa_cons (pv 2) pa_nil)) pe_int (nomark _)) (pw_and1 (pt_cmpR op_eq (pe_f C_law_draw (hr.mono (by decide)) (by rfl) pass0 (pa_cons (pv 0) (pa_cons pe_int pa_nil))) pe_int (nomark _)))))
          (pss_one (ps_set (i := 3) sc_law_powers_right.nd rfl (.inl rfl) (pe_f C_law_draw (hr.mono (by decide)) (by rfl) pass0 (pa_cons (pv 0) (pa_cons (pe_op op_pow pe_int pe_int) pa_nil)))))
          pss_nil)
      (pss_cons (ps_set (i := 4) sc_law_powers_right.nd rfl (.inl rfl) (pe_mth T.o_Polynomial (pe_poly T M_Polynomial_init (hr.mono (by decide)) (by rfl) (pa_cons (pe_f C_law_number (hr.mono (by decide)) (by rfl) pass0 (pa_cons (pv 1) pa_nil)) pa_nil)) T.m_Polynomial_power_mod M_Polynomial_power_mod (hr.mono (by decide)) pass0 (pa_cons (pv 3) (pa_cons (pe_poly T M_Polynomial_init (hr.mono (by decide)) (by rfl) (pa_cons (pe_f C_law_number (hr.mono (by decide)) (by rfl) pass0 (pa_cons (pv 2) pa_nil)) pa_nil)) pa_nil))))
      (pss_one (ps_ret (pe_fg C_law_is (hr.mono (by decide)) gd (by rfl) pass0 (pa_cons (pv 4) (pa_cons (pe_f C_law_power (hr.mono (by decide)) (by rfl) pass0 (pa_cons (pv 1) (pa_cons (pv 3) (pa_cons (pv 2) pa_nil)))) pa_nil))))))))), ?_⟩
    refine ⟨_, rfl, p, 8, rfl, hp, by decide, fun q1 n1 H1 l1 p1 k1 f1 h1 => ?_⟩
    have q1p : q1 ≠ p := Ne.symm (pot_ne hp f1)
    refine ⟨_, rfl, p, 4, rfl, p1, by decide, fun q2 n2 H2 l2 p2 k2 f2 h2 => ?_⟩
    have h1 := k2 _ _ h1 q1p
    have k2 := k1.trans k2
    refine ⟨by show 1 ≤ sizeLine; decide, fun z nz => ?_⟩
    have s3 : Same H2 (upd H2 z (.lst [.int 1])) := same_upd nz
    refine ⟨q2, z, _, _, rfl, rfl, s3 _ _ h2, upd_same, ?_, fun c nc => ?_⟩
    · rw [row_len]
      show blen n2 + 1 ≤ sizeLine
      have := line5
      omega
    have em : nats (rowOf n2) ++ [.int 1] = nats (rowOf (numB (rowOf n2 ++ [1]))) := by
      rw [← row_of_bare (bits_snoc rowOf_bit (by decide)) (.inr (by rw [List.getLast?_concat]))]
      exact nats_snoc _ 1
    have el : blen (numB (rowOf n2 ++ [1])) = blen n2 + 1 := by
      rw [← rowOf_length (numB (rowOf n2 ++ [1])), ← row_of_bare (bits_snoc rowOf_bit (by decide)) (.inr (by rw [List.getLast?_concat])), List.length_append, rowOf_length]
      rfl
    rw [em]
    generalize numB (rowOf n2 ++ [1]) = m at el ⊢
    have m0 : m ≠ 0 := fun z => by
      rw [z, blen_zero] at el
      omega
    have rl := pdiv_rem_lt (a := 1) m0
    have s4 : Same H2 (upd (upd H2 z (.lst [.int 1])) c (.lst (nats (rowOf m)))) := same_new s3 nc
    have g2 : (upd (upd H2 z (.lst [.int 1])) c (.lst (nats (rowOf m)))) c = _ := upd_same
    have nc2 : H2 c = none := s3.free nc
    generalize upd (upd H2 z (.lst [.int 1])) c (.lst (nats (rowOf m))) = H4 at s4 g2 ⊢
    have cp : c ≠ p := Ne.symm (pot_ne p2 nc2)
    have g1 := s4 _ _ h1
    have gp := pot_same p2 s4
    have gk := keep_same k2 s4
    refine ⟨_, _, rfl, ?_⟩
    refine ⟨_, rfl, p, 13, rfl, gp, by decide, by decide, fun ee H5 he p5 k5 => ?_⟩
    have g1 := k5 _ _ g1 q1p
    have g2 := k5 _ _ g2 cp
    have gk := gk.trans k5
    have gp := p5
    have le : blen ee ≤ 64 := (blen_key _ _).mp (Nat.lt_of_lt_of_le he (by decide))
    refine ⟨_, rfl, c, _, rfl, .inl (.inl (.inl g2)), _, _, rfl, rfl, _, rfl, ?_⟩
    by_cases c4 : ((nats (rowOf m)).length : Int) < 4
    · rw [decide_eq_true c4]
      refine iteT ⟨_, rfl, p, 2, rfl, gp, by decide, by decide, fun d6 H6 h6 p6 k6 => ⟨rfl, _, rfl, ?_⟩⟩
      have g1 := k6 _ _ g1 q1p
      have g2 := k6 _ _ g2 cp
      have gk := gk.trans k6
      have gp := p6
      by_cases d0 : d6 = 0
      · subst d0
        refine iteT ⟨_, rfl, _, _, rfl, rfl, ⟨by decide, by decide, by decide⟩, p, 10 ^ 18, rfl, gp, by decide, by decide, fun ee H7 he p7 k7 => ?_⟩
        have g1 := k7 _ _ g1 q1p
        have g2 := k7 _ _ g2 cp
        have gk := gk.trans k7
        have gp := p7
        have le : blen ee ≤ 64 := (blen_key _ _).mp (Nat.lt_of_lt_of_le he (by decide))
        refine ⟨_, rfl, q1, _, rfl, .inl (.inl g1), n1, by rw [numB_rowOf], fun o1 Ha sa na ha => ?_⟩
        obtain ⟨dx, eo⟩ := id ha
        refine ⟨o1, dx, _, rfl, eo, rfl, _, rfl, _, rfl, c, _, rfl, .inl (.inl (sa _ _ g2)), m, by rw [numB_rowOf], fun o2 Hb sb nb hb => ?_⟩
        have ha2 := ha.same sb
        refine ⟨o1, o2, n1, ee, m, rfl, ha2, hb, by omega, by omega, m0, fun o3 Hc sc nc hc => ?_⟩
        have sab := sa.trans (sb.trans sc)
        refine ⟨_, rfl, _, rfl, _, rfl, _, rfl, q1, c, n1, ee, m, rfl, sab _ _ g1, sab _ _ g2, m0, by omega, by omega, le, fun rr Hd sd hd => ?_⟩
        refine ⟨o3, rr, _, rfl, hc.same sd, hd, ppow_blen m0 (by omega) (by omega), fun He se => ?_⟩
        have sae := sab.trans (sd.trans se)
        exact q He (pot_same gp sae) (keep_same gk sae)
      · rw [show decide (V.int (d6 : Int) = V.int 0) = false from decide_eq_false fun z => d0 (by
          have := V.int.inj z
          omega)]
        refine iteF ?_
        refine ⟨_, rfl, q1, _, rfl, .inl (.inl g1), n1, by rw [numB_rowOf], fun o1 Ha sa na ha => ?_⟩
        obtain ⟨dx, eo⟩ := id ha
        refine ⟨o1, dx, _, rfl, eo, rfl, _, rfl, _, rfl, c, _, rfl, .inl (.inl (sa _ _ g2)), m, by rw [numB_rowOf], fun o2 Hb sb nb hb => ?_⟩
        have ha2 := ha.same sb
        refine ⟨o1, o2, n1, ee, m, rfl, ha2, hb, by omega, by omega, m0, fun o3 Hc sc nc hc => ?_⟩
        have sab := sa.trans (sb.trans sc)
        refine ⟨_, rfl, _, rfl, _, rfl, _, rfl, q1, c, n1, ee, m, rfl, sab _ _ g1, sab _ _ g2, m0, by omega, by omega, le, fun rr Hd sd hd => ?_⟩
        refine ⟨o3, rr, _, rfl, hc.same sd, hd, ppow_blen m0 (by omega) (by omega), fun He se => ?_⟩
        have sae := sab.trans (sd.trans se)
        exact q He (pot_same gp sae) (keep_same gk sae)
    · rw [decide_eq_false c4]
      refine iteF ?_
      refine ⟨_, rfl, q1, _, rfl, .inl (.inl g1), n1, by rw [numB_rowOf], fun o1 Ha sa na ha => ?_⟩
      obtain ⟨dx, eo⟩ := id ha
      refine ⟨o1, dx, _, rfl, eo, rfl, _, rfl, _, rfl, c, _, rfl, .inl (.inl (sa _ _ g2)), m, by rw [numB_rowOf], fun o2 Hb sb nb hb => ?_⟩
      have ha2 := ha.same sb
      refine ⟨o1, o2, n1, ee, m, rfl, ha2, hb, by omega, by omega, m0, fun o3 Hc sc nc hc => ?_⟩
      have sab := sa.trans (sb.trans sc)
      refine ⟨_, rfl, _, rfl, _, rfl, _, rfl, q1, c, n1, ee, m, rfl, sab _ _ g1, sab _ _ g2, m0, by omega, by omega, le, fun rr Hd sd hd => ?_⟩
      refine ⟨o3, rr, _, rfl, hc.same sd, hd, ppow_blen m0 (by omega) (by omega), fun He se => ?_⟩
      have sae := sab.trans (sd.trans se)
      exact q He (pot_same gp sae) (keep_same gk sae)
end
end K61

set_option maxHeartbeats 4000000
namespace K61
open PySem PySem.Spec PyProof.Rows L2 Bx
theorem cut_bits {fs : List Nat} (h : ∀ b ∈ fs, b < 2) (lo hi : Option Int) : ∃ gs : List Nat, cutV (nats fs) lo hi = nats gs ∧ (∀ b ∈ gs, b < 2) ∧ gs.length ≤ fs.length := by
  unfold cutV
  generalize HT.sIx (nats fs).length 0 lo = a
  generalize HT.sIx (nats fs).length (nats fs).length hi - a = c
  refine ⟨(fs.drop a).take c, ?_, fun b hb => h b (List.mem_of_mem_drop (List.mem_of_mem_take hb)), ?_⟩
  · unfold nats
    rw [List.map_take, List.map_drop]
  · rw [List.length_take, List.length_drop]
    omega
theorem bits_blen {gs : List Nat} (h : ∀ b ∈ gs, b < 2) : blen (numB gs) ≤ gs.length := (blen_key _ _).mp (numB_lt gs h)
theorem pmul_two (a : Nat) : pmul a 2 = a * 2 := by
  have e : pmul a 2 = xs (fun k => if (2 : Nat).testBit k then a <<< k else 0) 2 := rfl
  rw [e]
  show (0 ^^^ (if (2 : Nat).testBit 0 then a <<< 0 else 0)) ^^^ (if (2 : Nat).testBit 1 then a <<< 1 else 0) = a * 2
  have t0 : (2 : Nat).testBit 0 = false := by decide
  have t1 : (2 : Nat).testBit 1 = true := by decide
  rw [t0, t1, if_neg (by decide), if_pos rfl, Nat.zero_xor, Nat.zero_xor, Nat.shiftLeft_eq]
theorem row_last {n : Nat} (h : n ≠ 0) : (rowOf n).getLast? = some 1 := by
  have hb := blen_pos h
  rw [List.getLast?_eq_getElem?, rowOf_length, rowOf_at (by omega), hb, Nat.add_sub_cancel, testBit_top h]
  rfl
theorem row_two {n : Nat} (h : n ≠ 0) : 0 :: rowOf n = rowOf (n * 2) := by
  have e : numB (0 :: rowOf n) = n * 2 := by
    show 0 + 2 * numB (rowOf n) = n * 2
    rw [numB_rowOf]
    omega
  rw [← e]
  refine row_of_bare (fun b hb => ?_) (.inr ?_)
  · rcases List.mem_cons.mp hb with z | z
    · rw [z]
      decide
    · exact rowOf_bit b z
  · have : rowOf n ≠ [] := fun z => h (rowOf_nil.mp z)
    rw [List.getLast?_cons, row_last h]
    rfl
/-- the rows that a list holds -/
def RowsAt (H : Hp) (D p : Addr) (acc : List V) : Prop := ∀ v ∈ acc, ∃ (r : Addr) (m : Nat), v = .ref r ∧ r ≠ D ∧ r ≠ p ∧ H r = some (.lst (nats (rowOf m))) ∧ blen m ≤ 60
theorem two_of {acc : List V} (h : acc.length = 2) : ∃ a b, acc = [a, b] := by
  match acc, h with
  | [a, b], _ => exact ⟨a, b, rfl⟩
section
variable {P : Program} {w : World} {K : PySem.W.Frag} {mg : Str → Option Value} {base : Heap}
variable (T : Txt K mg) (M_Polynomial_init : FnN P w K mg base CX0 2 (He.ma K (CP K) "__init__") ["self", "word"] (sp_init K)) (M_Polynomial_add : FnN P w K mg base CX0 5 (He.ma K (CP K) "__add__") ["self", "other"] (sp_bin K small (· ^^^ ·))) (M_Polynomial_mul : FnN P w K mg base CX0 5 (He.ma K (CP K) "__mul__") ["self", "other"] (sp_bin K small pmul))
  (M_Polynomial_floordiv : FnN P w K mg base CX0 6 (He.ma K (CP K) "__floordiv__") ["self", "other"] (sp_bin K divs fun a b => (pdiv a b).1)) (M_Polynomial_mod : FnN P w K mg base CX0 6 (He.ma K (CP K) "__mod__") ["self", "other"] (sp_bin K divs fun a b => (pdiv a b).2))
  (M_Polynomial_gcd : FnN P w K mg base CX0 5 (He.ma K (CP K) "gcd") ["self", "other"] (sp_bin K small pgcd)) (M_Polynomial_power_mod : FnN P w K mg base CX0 6 (He.ma K (CP K) "power_mod") ["self", "exponent", "modulus"] (sp_power_mod K)) (M_Polynomial_eq : FnN P w K mg base CX0 3 (He.ma K (CP K) "__eq__") ["self", "other"] (sp_eq K))
  (C_law_draw : CallF P w K mg base CX0 1 "_law_draw" ["_law_pot_here", "_law_many"] sp_draw) (C_law_bare : CallF P w K mg base CX0 1 "_law_bare" ["_law_row"] (sp_bare K)) (C_law_list : CallF P w K mg base CX0 2 "_law_list" ["_law_pot_here", "_law_most"] sp_list) (C_law_number : CallF P w K mg base CX0 1 "_law_number" ["_law_row"] (sp_number K))
  (C_law_sum : CallF P w K mg base CX0 2 "_law_sum" ["_law_one", "_law_two"] sp_sum) (C_law_product : CallF P w K mg base CX0 2 "_law_product" ["_law_one", "_law_two"] sp_product) (C_law_divided : CallF P w K mg base CX0 2 "_law_divided" ["_law_one", "_law_two"] sp_divided)
  (C_law_common : CallF P w K mg base CX0 3 "_law_common" ["_law_one", "_law_two"] sp_common) (C_law_power : CallF P w K mg base CX0 3 "_law_power" ["_law_row", "_law_many", "_law_by"] sp_power) (C_law_is : CallG P w K mg base CX0 6 "_law_is" ["_law_told", "_law_row"] (sp_is K))
  (C_law_pair_right : CallG P w K mg base CX0 7 "_law_pair_right" ["_law_one", "_law_two"] sp_pair) (C_law_great_right : CallG P w K mg base CX0 7 "_law_great_right" ["_law_one", "_law_two"] sp_pair) (C_law_powers_right : CallG P w K mg base CX0 7 "_law_powers_right" ["_law_pot_here"] sp_right)
theorem sc_law_right : FnScope ["_law_pot_here", "_law_one", "_law_two", "_law_three", "_law_longer", "_law_shorter", "_law_row", "_law_great", "_law_first", "_law_second"] ["_law_pot_here"] (defScope (top 39)) := ⟨rfl, rfl, rfl, by decide +kernel, rfl, by decide +kernel, by decide +kernel⟩
include T M_Polynomial_init M_Polynomial_add M_Polynomial_mul C_law_draw C_law_bare C_law_list C_law_number C_law_sum C_law_product C_law_is C_law_pair_right C_law_great_right C_law_powers_right in
theorem ok_right : CallG P w K mg base CX0 8 "_law_right" ["_law_pot_here"] sp_right := by
  refine callG_of T.d_law_right sc_law_right (fun _ _ _ _ _ _ us hl => match us, hl with | [_], _ => rfl) (fun vs H Q E h => ?_) (fun cdv A outer s H vs Q E hr gd h => ?_)
  · obtain ⟨p, rfl, _⟩ := h
    rfl
  · obtain ⟨p, rfl, hp, q⟩ := h
    refine ⟨_, (pss_cons (ps_par3 (i := 1) (j := 2) (l := 3) (by rfl) sc_law_right.nd rfl rfl rfl (by decide) (by decide) (by decide) rfl rfl rfl (pa_cons (pe_f C_law_list (hr.mono (by decide)) (by rfl) pass0 (pa_cons (pv 0) (pa_cons pe_int pa_nil))) (pa_cons (pe_f C_law_list (hr.mono (by decide)) (by rfl) pass0 (pa_cons (pv 0) (pa_cons pe_int pa_nil))) (pa_cons (pe_f C_law_list (hr.mono (by decide)) (by rfl) pass0 (pa_cons (pv 0) (pa_cons pe_int pa_nil))) pa_nil))) (by rfl))
      (pss_cons (ps_if (pt_cmpR op_eq (pe_f C_law_draw (hr.mono (by decide)) (by rfl) pass0 (pa_cons (pv 0) (pa_cons pe_int pa_nil))) pe_int (nomark _))
          (pss_one (ps_par (i := 1) (j := 2) (by rfl) sc_law_right.nd rfl rfl (by decide) rfl rfl (pa_cons (pe_f C_law_product (hr.mono (by decide)) (by rfl) pass0 (pa_cons (pe_slice sl_list (pv 1) po_none (po_some pe_int)) (pa_cons (pv 3) pa_nil))) (pa_cons (pe_f C_law_product (hr.mono (by decide)) (by rfl) pass0 (pa_cons (pe_slice sl_list (pv 2) po_none (po_some pe_int)) (pa_cons (pv 3) pa_nil))) pa_nil)) (by rfl)))
          pss_nil)
      (pss_cons (ps_set (i := 4) sc_law_right.nd rfl (.inl rfl) (pe_lst (pa_cons (pe_f C_law_list (hr.mono (by decide)) (by rfl) pass0 (pa_cons (pv 0) (pa_cons pe_int pa_nil))) (pa_cons (pe_f C_law_list (hr.mono (by decide)) (by rfl) pass0 (pa_cons (pv 0) (pa_cons (pe_ix ix_list (pe_lst (pa_cons pe_int (pa_cons pe_int pa_nil))) (pe_f C_law_draw (hr.mono (by decide)) (by rfl) pass0 (pa_cons (pv 0) (pa_cons pe_int pa_nil))) (fun _ _ => rfl)) pa_nil))) pa_nil))))
      (pss_cons (ps_setLc (i := 5) (own := [("_law_row", 6)]) (by rfl) sc_law_right.nd rfl rfl (sw_true rfl rfl rfl (by decide +kernel)) (pi_list (pv 4)) (blkOk_by (own := [("_law_row", 6)]) (N := ["_law_pot_here", "_law_one", "_law_two", "_law_three", "_law_longer", "_law_shorter", "_law_row", "_law_great", "_law_first", "_law_second"]) (sc := defScope (top 39)) (by decide +kernel)) (fun _ _ _ _ _ => (pg_name (i := 6) sc_law_right.nd rfl (.inl rfl))) (fun _ _ _ _ _ => pts_nil) (fun _ _ _ _ _ => (pe_f C_law_bare (hr.mono (by decide)) (by rfl) pass0 (pa_cons (pe_slice (show SlR _ (rSlL K) from sl_list) (pv 6) po_none (po_some pe_int)) pa_nil))))
      (pss_cons (ps_setLc (i := 7) (own := [("_law_row", 6)]) (by rfl) sc_law_right.nd rfl rfl (sw_true rfl rfl rfl (by decide +kernel)) (pi_list (pv 4)) (blkOk_by (own := [("_law_row", 6)]) (N := ["_law_pot_here", "_law_one", "_law_two", "_law_three", "_law_longer", "_law_shorter", "_law_row", "_law_great", "_law_first", "_law_second"]) (sc := defScope (top 39)) (by decide +kernel)) (fun _ _ _ _ _ => (pg_name (i := 6) sc_law_right.nd rfl (.inl rfl))) (fun _ _ _ _ _ => pts_nil) (fun _ _ _ _ _ => (pe_f C_law_bare (hr.mono (by decide)) (by rfl) pass0 (pa_cons (pe_slice (show SlR _ (rSlL K) from sl_list) (pv 6) po_none (po_some pe_int)) pa_nil))))
      (pss_cons (ps_if (PW.pt (pw_and (pt_cmpR op_eq (pe_f C_law_draw (hr.mono (by decide)) (by rfl) pass0 (pa_cons (pv 0) (pa_cons pe_int pa_nil))) pe_int (nomark _)) (pw_and1 (pt_not (pt_val (pe_fg C_law_great_right (hr.mono (by decide)) gd (by rfl) pass0 (pa_cons (pe_ix ix_list (pv 7) pe_int (fun _ _ => rfl)) (pa_cons (pe_ix ix_list (pv 7) pe_int (fun _ _ => rfl)) pa_nil))))))))
          (pss_one (ps_ret pe_bl))
          pss_nil)
      (pss_cons (ps_if (PW.pt (pw_or (pt_not (pt_val (pe_fg C_law_pair_right (hr.mono (by decide)) gd (by rfl) pass0 (pa_cons (pv 1) (pa_cons (pv 2) pa_nil))))) (pw_or1 (pt_not (pt_val (pe_fg C_law_pair_right (hr.mono (by decide)) gd (by rfl) pass0 (pa_cons (pe_ix ix_list (pv 5) pe_int (fun _ _ => rfl)) (pa_cons (pe_ix ix_list (pv 5) pe_int (fun _ _ => rfl)) pa_nil))))))))
          (pss_one (ps_ret pe_bl))
          pss_nil)
      (pss_cons (ps_par (i := 8) (j := 9) (by rfl) sc_law_right.nd rfl rfl (by decide) rfl rfl (pa_cons (pe_poly T M_Polynomial_init (hr.mono (by decide)) (by rfl) (pa_cons (pe_f C_law_number (hr.mono (by decide)) (by rfl) pass0 (pa_cons (pe_ix ix_list (pv 4) pe_int (fun _ _ => rfl)) pa_nil)) pa_nil)) (pa_cons (pe_poly T M_Polynomial_init (hr.mono (by decide)) (by rfl) (pa_cons (pe_f C_law_number (hr.mono (by decide)) (by rfl) pass0 (pa_cons (pe_ix ix_list (pv 4) pe_int (fun _ _ => rfl)) pa_nil)) pa_nil)) pa_nil)) (by rfl))
      (pss_cons (ps_if (PW.pt (pw_or (pt_not (pt_val (pe_fg C_law_is (hr.mono (by decide)) gd (by rfl) pass0 (pa_cons (pe_op (op_own2 T.o_Polynomial T.m_Polynomial_add M_Polynomial_add (hr.mono (by decide)) pass0) (pv 8) (pv 9)) (pa_cons (pe_f C_law_sum (hr.mono (by decide)) (by rfl) pass0 (pa_cons (pe_ix ix_list (pv 4) pe_int (fun _ _ => rfl)) (pa_cons (pe_ix ix_list (pv 4) pe_int (fun _ _ => rfl)) pa_nil))) pa_nil))))) (pw_or1 (pt_not (pt_val (pe_fg C_law_pair_right (hr.mono (by decide)) gd (by rfl) pass0 (pa_cons (pe_lst pa_nil) (pa_cons (pv 1) pa_nil))))))))
          (pss_one (ps_ret pe_bl))
          pss_nil)
      (pss_one (ps_ret (pe_and (pe_fg C_law_is (hr.mono (by decide)) gd (by rfl) pass0 (pa_cons (pe_op (op_own2 T.o_Polynomial T.m_Polynomial_mul M_Polynomial_mul (hr.mono (by decide)) pass0) (pv 8) (pe_poly T M_Polynomial_init (hr.mono (by decide)) (by rfl) (pa_cons pe_int pa_nil))) (pa_cons (pe_op op_cat (pe_op op_rep (pe_lst (pa_cons pe_int pa_nil)) (pe_callTy call_int1 (by rfl) T.b_int bt_int (pa_cons (pe_cmpR (op_neNil hr.units) (pe_ix ix_list (pv 4) pe_int (fun _ _ => rfl)) (pe_lst pa_nil) (nomark _)) pa_nil))) (pe_ix ix_list (pv 4) pe_int (fun _ _ => rfl))) pa_nil))) (pe_one (pe_fg C_law_powers_right (hr.mono (by decide)) gd (by rfl) pass0 (pa_cons (pv 0) pa_nil))))))))))))))), ?_⟩
    refine ⟨_, rfl, p, 9, rfl, hp, by decide, fun q1 n1 H1 l1 p1 k1 f1 h1 => ?_⟩
    have q1p : q1 ≠ p := Ne.symm (pot_ne hp f1)
    refine ⟨_, rfl, p, 9, rfl, p1, by decide, fun q2 n2 H2 l2 p2 k2 f2 h2 => ?_⟩
    have q2p : q2 ≠ p := Ne.symm (pot_ne p1 f2)
    have h1 := k2 _ _ h1 q1p
    refine ⟨_, rfl, p, 4, rfl, p2, by decide, fun q3 n3 H3 l3 p3 k3 f3 h3 => ?_⟩
    have q3p : q3 ≠ p := Ne.symm (pot_ne p2 f3)
    have h1 := k3 _ _ h1 q1p
    have h2 := k3 _ _ h2 q2p
    have gk := (k1.trans k2).trans k3
    refine ⟨_, _, _, rfl, ?_⟩
    refine ⟨_, rfl, p, 2, rfl, p3, by decide, by decide, fun d4 H4 hd4 p4 k4 => ⟨rfl, _, rfl, ?_⟩⟩
    have h1 := k4 _ _ h1 q1p
    have h2 := k4 _ _ h2 q2p
    have h3 := k4 _ _ h3 q3p
    have gk := gk.trans k4
    have gp := p4
    by_cases d0 : d4 = 0
    · subst d0
      refine iteT ?_
      obtain ⟨g1, eg1, gb1, gl1⟩ := cut_bits (rowOf_bit (n := n1)) none (some 6)
      obtain ⟨g2, eg2, gb2, gl2⟩ := cut_bits (rowOf_bit (n := n2)) none (some 6)
      rw [rowOf_length] at gl1 gl2
      have lg1 := bits_blen gb1
      have lg2 := bits_blen gb2
      refine ⟨_, rfl, 6, rfl, q1, _, rfl, .inl (.inl h1), fun c1 nc1 => ?_⟩
      rw [eg1]
      have sc1 : Same H4 (upd H4 c1 (.lst (nats g1))) := same_upd nc1
      refine ⟨_, rfl, c1, q3, g1, rowOf n3, rfl, upd_same, sc1 _ _ h3, gb1, rowOf_bit, by omega, by rw [rowOf_length]; omega, fun A1 H5 s5 nA1 hA1 => ?_⟩
      have s45 := sc1.trans s5
      have A1p : A1 ≠ p := Ne.symm (pot_ne (pot_same p4 sc1) nA1)
      dsimp only at hA1
      rw [numB_rowOf] at hA1
      refine ⟨_, rfl, 6, rfl, q2, _, rfl, .inl (.inl (s45 _ _ h2)), fun c2 nc2 => ?_⟩
      rw [eg2]
      have sc2 : Same H5 (upd H5 c2 (.lst (nats g2))) := same_upd nc2
      refine ⟨_, rfl, c2, q3, g2, rowOf n3, rfl, upd_same, sc2 _ _ (s45 _ _ h3), gb2, rowOf_bit, by omega, by rw [rowOf_length]; omega, fun A2 H6 s6 nA2 hA2 => ?_⟩
      have s56 := sc2.trans s6
      have s46 := s45.trans s56
      have A2p : A2 ≠ p := Ne.symm (pot_ne (pot_same p4 (s45.trans sc2)) nA2)
      dsimp only at hA2
      rw [numB_rowOf] at hA2
      have hA1 := s56 _ _ hA1
      have gp := pot_same p4 s46
      have gk := keep_same gk s46
      have lm1 : blen (pmul (numB g1) n3) ≤ 20 := pmul_blen (by omega)
      have lm2 : blen (pmul (numB g2) n3) ≤ 20 := pmul_blen (by omega)
      generalize pmul (numB g1) n3 = m1 at hA1 lm1
      generalize pmul (numB g2) n3 = m2 at hA2 lm2
      refine ⟨_, _, rfl, ?_⟩
      clear h1 h2 h3 s5 s6 s45 s56 s46 sc1 sc2 nA1 nA2
      -- from here: A1 A2 hold rows m1 m2 at the heap HB; gpB gkB
      refine ⟨_, rfl, p, 60, rfl, gp, by decide, fun q4 n4 Ha l4 pa ka f4 hq4 => ?_⟩
      have q4p : q4 ≠ p := Ne.symm (pot_ne gp f4)
      have hA1 := ka _ _ hA1 A1p
      have hA2 := ka _ _ hA2 A2p
      have gk := gk.trans ka
      refine ⟨_, rfl, by show 2 ≤ sizeLine; decide, fun L nL => ?_⟩
      have Lp : L ≠ p := Ne.symm (pot_ne pa nL)
      have sL : Same Ha (upd Ha L (.lst [.int 4, .int 60])) := same_upd nL
      have hA1 := sL _ _ hA1
      have hA2 := sL _ _ hA2
      have hq4 := sL _ _ hq4
      have gp := pot_same pa sL
      have gk := keep_same gk sL
      have hL : (upd Ha L (.lst [.int 4, .int 60])) L = some (.lst [.int 4, .int 60]) := upd_same
      generalize upd Ha L (.lst [.int 4, .int 60]) = Hb at sL hA1 hA2 hq4 gp gk hL ⊢
      refine ⟨_, rfl, p, 2, rfl, gp, by decide, by decide, fun d5 Hc hd5 pc kc => ?_⟩
      have hA1 := kc _ _ hA1 A1p
      have hA2 := kc _ _ hA2 A2p
      have hq4 := kc _ _ hq4 q4p
      have hL := kc _ _ hL Lp
      have gk := gk.trans kc
      obtain ⟨m5, e5, l5⟩ : ∃ m5 : Nat, atI ([.int 4, .int 60] : List V) (d5 : Int) = some (.int (m5 : Nat)) ∧ m5 ≤ 60 := by
        rcases (show d5 = 0 ∨ d5 = 1 by omega) with z | z <;> subst z
        · exact ⟨4, rfl, by decide⟩
        · exact ⟨60, rfl, by decide⟩
      refine ⟨L, _, _, _, rfl, rfl, .inl (.inl hL), e5, p, m5, rfl, pc, by omega, fun q5 n5 Hd l5' pd kd f5 hq5 => ?_⟩
      have q5p : q5 ≠ p := Ne.symm (pot_ne pc f5)
      have hA1 := kd _ _ hA1 A1p
      have hA2 := kd _ _ hA2 A2p
      have hq4 := kd _ _ hq4 q4p
      have gk := gk.trans kd
      refine ⟨by show 2 ≤ sizeLine; decide, fun LL nLL => ?_⟩
      have LLp : LL ≠ p := Ne.symm (pot_ne pd nLL)
      have sLL : Same Hd (upd Hd LL (.lst [.ref q4, .ref q5])) := same_upd nLL
      have hA1 := sLL _ _ hA1
      have hA2 := sLL _ _ hA2
      have hq4 := sLL _ _ hq4
      have hq5 := sLL _ _ hq5
      have gp := pot_same pd sLL
      have gk := keep_same gk sLL
      have hLL : (upd Hd LL (.lst [.ref q4, .ref q5])) LL = some (.lst [.ref q4, .ref q5]) := upd_same
      generalize upd Hd LL (.lst [.ref q4, .ref q5]) = He at sLL hA1 hA2 hq4 hq5 gp gk hLL ⊢
      refine ⟨_, rfl, LL, rfl, ⟨_, .inl (.inl hLL)⟩, fun D1 nD1 => ?_⟩
      refine lc_list (K := K) (a := LL) (xs := [.ref q4, .ref q5]) (fun i H' => Same He H' ∧ ∃ acc : List V, acc.length = i ∧ H' D1 = some (.lst acc) ∧ RowsAt H' D1 p acc) ⟨same_upd nD1, [], rfl, upd_same, fun v hv => nomatch hv⟩ (fun i H' _ z => .inl (.inl (z.1 _ _ hLL))) ?_ ?_
      · rintro i x Hx hx ⟨sm, acc, al, hd, ra⟩
        have fact : ∃ (qq : Addr) (nn : Nat), x = .ref qq ∧ Hx qq = some (.lst (nats (rowOf nn))) ∧ blen nn ≤ 60 := by
          match i, hx with
          | 0, hx => exact ⟨q4, n4, (Option.some.inj hx).symm, sm _ _ hq4, by omega⟩
          | 1, hx => exact ⟨q5, n5, (Option.some.inj hx).symm, sm _ _ hq5, by omega⟩
        obtain ⟨qq, nn, rfl, hqq, lnn⟩ := fact
        obtain ⟨gs, eg, gb, gl⟩ := cut_bits (rowOf_bit (n := nn)) none (some 24)
        refine ⟨rfl, _, rfl, 24, rfl, qq, _, rfl, .inl (.inl hqq), fun cc ncc => ?_⟩
        rw [eg]
        have sc1 : Same Hx (upd Hx cc (.lst (nats gs))) := same_upd ncc
        refine ⟨cc, gs, rfl, .inl (.inl upd_same), gb, fun rr Hy sy nr hr2 => ?_⟩
        have sxy := sc1.trans sy
        have nrx : Hx rr = none := sc1.free nr
        have rD : rr ≠ D1 := Ne.symm (ne_of_none hd nrx)
        rw [rowOf_length] at gl
        have lg := bits_blen gb
        have i2 : i < 2 := (List.getElem?_eq_some_iff.mp hx).1
        refine ⟨acc, sxy _ _ hd, ?_, same_put (sm.trans sxy) nD1, acc ++ [.ref rr], ?_, upd_same, fun v hv => ?_⟩
        · have := line5
          omega
        · rw [List.length_append, al]
          rfl
        · rcases List.mem_append.mp hv with z | z
          · obtain ⟨r, mm, e1, e2, e5, e3, e4⟩ := ra v z
            exact ⟨r, mm, e1, e2, e5, (upd_ne e2).trans (sxy _ _ e3), e4⟩
          · exact ⟨rr, _, List.mem_singleton.mp z, rD, Ne.symm (pot_ne (pot_same gp sm) nrx), (upd_ne rD).trans hr2, by omega⟩
      rintro Hf ⟨sF, accD1, alD1, hD1, raD1⟩
      obtain ⟨v1D1, v2D1, rfl⟩ := two_of alD1
      obtain ⟨r1, r1w, rfl, r1n, r1p, hr1, lr1⟩ := raD1 _ (List.mem_cons_self ..)
      obtain ⟨r2, r2w, rfl, r2n, r2p, hr2, lr2⟩ := raD1 _ (List.mem_cons_of_mem _ (List.mem_cons_self ..))
      have hA1 := sF _ _ hA1
      have hA2 := sF _ _ hA2
      have hq4 := sF _ _ hq4
      have hq5 := sF _ _ hq5
      have hLL := sF _ _ hLL
      have D1p : D1 ≠ p := Ne.symm (pot_ne gp nD1)
      have gp := pot_same gp sF
      have gk := keep_same gk sF
      refine ⟨_, rfl, LL, rfl, ⟨_, .inl (.inl hLL)⟩, fun D2 nD2 => ?_⟩
      refine lc_list (K := K) (a := LL) (xs := [.ref q4, .ref q5]) (fun i H' => Same Hf H' ∧ ∃ acc : List V, acc.length = i ∧ H' D2 = some (.lst acc) ∧ RowsAt H' D2 p acc) ⟨same_upd nD2, [], rfl, upd_same, fun v hv => nomatch hv⟩ (fun i H' _ z => .inl (.inl (z.1 _ _ hLL))) ?_ ?_
      · rintro i x Hx hx ⟨sm, acc, al, hd, ra⟩
        have fact : ∃ (qq : Addr) (nn : Nat), x = .ref qq ∧ Hx qq = some (.lst (nats (rowOf nn))) ∧ blen nn ≤ 60 := by
          match i, hx with
          | 0, hx => exact ⟨q4, n4, (Option.some.inj hx).symm, sm _ _ hq4, by omega⟩
          | 1, hx => exact ⟨q5, n5, (Option.some.inj hx).symm, sm _ _ hq5, by omega⟩
        obtain ⟨qq, nn, rfl, hqq, lnn⟩ := fact
        obtain ⟨gs, eg, gb, gl⟩ := cut_bits (rowOf_bit (n := nn)) none (some 49)
        refine ⟨rfl, _, rfl, 49, rfl, qq, _, rfl, .inl (.inl hqq), fun cc ncc => ?_⟩
        rw [eg]
        have sc1 : Same Hx (upd Hx cc (.lst (nats gs))) := same_upd ncc
        refine ⟨cc, gs, rfl, .inl (.inl upd_same), gb, fun rr Hy sy nr hr2 => ?_⟩
        have sxy := sc1.trans sy
        have nrx : Hx rr = none := sc1.free nr
        have rD : rr ≠ D2 := Ne.symm (ne_of_none hd nrx)
        rw [rowOf_length] at gl
        have lg := bits_blen gb
        have i2 : i < 2 := (List.getElem?_eq_some_iff.mp hx).1
        refine ⟨acc, sxy _ _ hd, ?_, same_put (sm.trans sxy) nD2, acc ++ [.ref rr], ?_, upd_same, fun v hv => ?_⟩
        · have := line5
          omega
        · rw [List.length_append, al]
          rfl
        · rcases List.mem_append.mp hv with z | z
          · obtain ⟨r, mm, e1, e2, e5, e3, e4⟩ := ra v z
            exact ⟨r, mm, e1, e2, e5, (upd_ne e2).trans (sxy _ _ e3), e4⟩
          · exact ⟨rr, _, List.mem_singleton.mp z, rD, Ne.symm (pot_ne (pot_same gp sm) nrx), (upd_ne rD).trans hr2, by omega⟩
      rintro Hg ⟨sG, accD2, alD2, hD2, raD2⟩
      obtain ⟨v1D2, v2D2, rfl⟩ := two_of alD2
      obtain ⟨t1, t1w, rfl, t1n, t1p, ht1, lt1⟩ := raD2 _ (List.mem_cons_self ..)
      obtain ⟨t2, t2w, rfl, t2n, t2p, ht2, lt2⟩ := raD2 _ (List.mem_cons_of_mem _ (List.mem_cons_self ..))
      have hA1 := sG _ _ hA1
      have hA2 := sG _ _ hA2
      have hq4 := sG _ _ hq4
      have hq5 := sG _ _ hq5
      have hLL := sG _ _ hLL
      have hD1 := sG _ _ hD1
      have hr1 := sG _ _ hr1
      have hr2 := sG _ _ hr2
      have D2p : D2 ≠ p := Ne.symm (pot_ne gp nD2)
      have gp := pot_same gp sG
      have gk := keep_same gk sG
      refine ⟨_, rfl, p, 3, rfl, gp, by decide, by decide, fun d7 Hh hd7 ph kh => ⟨rfl, _, rfl, ?_⟩⟩
      have hA1 := kh _ _ hA1 A1p
      have hA2 := kh _ _ hA2 A2p
      have hq4 := kh _ _ hq4 q4p
      have hq5 := kh _ _ hq5 q5p
      have hLL := kh _ _ hLL LLp
      have hD1 := kh _ _ hD1 D1p
      have hr1 := kh _ _ hr1 r1p
      have hr2 := kh _ _ hr2 r2p
      have hD2 := kh _ _ hD2 D2p
      have ht1 := kh _ _ ht1 t1p
      have ht2 := kh _ _ ht2 t2p
      have gk := gk.trans kh
      have gp := ph
      by_cases d7z : d7 = 0
      · subst d7z
        refine iteT ⟨_, rfl, D2, _, 0, _, rfl, rfl, .inl (.inl hD2), atI_nat (j := 0) rfl, _, rfl, D2, _, 1, _, rfl, rfl, .inl (.inl hD2), atI_nat (j := 1) rfl, t1, t2, t1w, t2w, rfl, ht1, ht2, by omega, by omega, fun Hi si => ⟨true, rfl, iteF ?_⟩⟩
        have hA1 := si _ _ hA1
        have hA2 := si _ _ hA2
        have hq4 := si _ _ hq4
        have hq5 := si _ _ hq5
        have hLL := si _ _ hLL
        have hD1 := si _ _ hD1
        have hr1 := si _ _ hr1
        have hr2 := si _ _ hr2
        have gp := pot_same gp si
        have gk := keep_same gk si
        -- from here: facts at the heap: hA1 hA2 hD1 v1 v2 hLL hq4 hq5, gp gk
        refine ⟨_, rfl, _, rfl, A1, A2, m1, m2, rfl, hA1, hA2, by omega, by omega, fun Ja sa => ⟨true, rfl, iteF ?_⟩⟩
        refine ⟨_, rfl, D1, _, 0, _, rfl, rfl, .inl (.inl (sa _ _ hD1)), atI_nat (j := 0) rfl, _, rfl, D1, _, 1, _, rfl, rfl, .inl (.inl (sa _ _ hD1)), atI_nat (j := 1) rfl, r1, r2, r1w, r2w, rfl, sa _ _ hr1, sa _ _ hr2, by omega, by omega, fun Jb sb => ⟨true, rfl, iteF ?_⟩⟩
        have sab := sa.trans sb
        refine ⟨_, rfl, LL, _, 0, _, rfl, rfl, .inl (.inl (sab _ _ hLL)), atI_nat (j := 0) rfl, q4, _, rfl, .inl (.inl (sab _ _ hq4)), n4, by rw [numB_rowOf], fun o1 Jc sc nc hc => ?_⟩
        have sac := sab.trans sc
        refine ⟨_, rfl, LL, _, 1, _, rfl, rfl, .inl (.inl (sac _ _ hLL)), atI_nat (j := 1) rfl, q5, _, rfl, .inl (.inl (sac _ _ hq5)), n5, by rw [numB_rowOf], fun o2 Jd sd nd hd => ?_⟩
        have sad := sac.trans sd
        have hc := hc.same sd
        obtain ⟨x1, eo1⟩ := id hc
        obtain ⟨x2, eo2⟩ := id hd
        refine ⟨_, _, rfl, ?_⟩
        refine ⟨_, rfl, _, rfl, o1, o2, x1, _, x2, _, rfl, rfl, eo1, eo2, o1, o2, n4, n5, rfl, hc, hd, ⟨by omega, by omega⟩, fun o3 Je se ne he => ?_⟩
        have sae := sad.trans se
        refine ⟨_, rfl, LL, _, 0, _, rfl, rfl, .inl (.inl (sae _ _ hLL)), atI_nat (j := 0) rfl, _, rfl, LL, _, 1, _, rfl, rfl, .inl (.inl (sae _ _ hLL)), atI_nat (j := 1) rfl, q4, q5, rowOf n4, rowOf n5, rfl, sae _ _ hq4, sae _ _ hq5, rowOf_bit, rowOf_bit, by rw [rowOf_length]; omega, by rw [rowOf_length]; omega, fun r6 Jf sf nf hf => ?_⟩
        dsimp only at hf
        rw [numB_rowOf, numB_rowOf] at hf
        refine ⟨o3, r6, n4 ^^^ n5, rfl, he.same sf, hf, Nat.le_trans (blen_xor (m := 60) (by omega) (by omega)) (by decide), fun Jg sg => ⟨true, rfl, iteF ?_⟩⟩
        have sag := sae.trans (sf.trans sg)
        refine ⟨Nat.zero_le _, fun z nz => ?_⟩
        have sh : Same Jg (upd Jg z (.lst [])) := same_upd nz
        have sah := sag.trans sh
        refine ⟨_, rfl, z, A1, 0, m1, rfl, upd_same, sah _ _ hA1, by decide, by omega, fun Ji si => ⟨true, rfl, iteF ?_⟩⟩
        have sai := sah.trans si
        have sdi : Same Jd Ji := (se.trans (sf.trans sg)).trans (sh.trans si)
        refine ⟨_, rfl, 2, rfl, fun o4 Jj sj nj hj => ?_⟩
        have sdj := sdi.trans sj
        have saj := sai.trans sj
        obtain ⟨x4, eo4⟩ := id hj
        refine ⟨o1, o4, x1, _, x4, _, rfl, rfl, sdj _ _ eo1, eo4, o1, o4, n4, 2, rfl, hc.same sdj, hj, ⟨by omega, by decide⟩, fun o5 Jk sk nk hk => ?_⟩
        have sak := saj.trans sk
        rw [pmul_two] at hk
        refine ⟨by show 1 ≤ sizeLine; decide, fun z2 nz2 => ?_⟩
        have sl : Same Jk (upd Jk z2 (.lst [.int 0])) := same_upd nz2
        have sal := sak.trans sl
        have hz2 : (upd Jk z2 (.lst [.int 0])) z2 = some (.lst [.int 0]) := upd_same
        generalize upd Jk z2 (.lst [.int 0]) = Jl at sl sal hz2 ⊢
        refine ⟨_, rfl, LL, _, 0, _, rfl, rfl, .inl (.inl (sal _ _ hLL)), atI_nat (j := 0) rfl, Nat.zero_le _, fun z3 nz3 => ?_⟩
        have sm : Same Jl (upd Jl z3 (.lst [])) := same_upd nz3
        have hz3 : (upd Jl z3 (.lst [])) z3 = some (.lst []) := upd_same
        generalize upd Jl z3 (.lst []) = Jm at sm hz3 ⊢
        have sam := sal.trans sm
        refine ⟨q4, _, z3, rfl, rfl, .inl (.inl (sam _ _ hq4)), .inl (.inl hz3), ok_row, .inr ⟨_, rfl, ?_⟩⟩
        rw [row_empty]
        have ez : ((if (!decide (n4 = 0)) = true then 1 else 0 : Int)).toNat = if n4 = 0 then 0 else 1 := by
          by_cases z : n4 = 0
          · rw [decide_eq_true z, if_pos z]
            rfl
          · rw [decide_eq_false z, if_neg z]
            rfl
        refine ⟨z2, _, _, rfl, rfl, sm _ _ hz2, by split <;> decide, by split <;> decide, ?_, fun z4 nz4 => ?_⟩
        · rw [ez]
          show 1 * _ ≤ _
          split <;> decide
        rw [ez]
        have sn : Same Jm (upd Jm z4 (.lst (List.replicate (if n4 = 0 then 0 else 1) [V.int 0]).flatten)) := same_upd nz4
        have hz4 : (upd Jm z4 (.lst (List.replicate (if n4 = 0 then 0 else 1) [V.int 0]).flatten)) z4 = some (.lst (List.replicate (if n4 = 0 then 0 else 1) [V.int 0]).flatten) := upd_same
        generalize upd Jm z4 (.lst (List.replicate (if n4 = 0 then 0 else 1) [V.int 0]).flatten) = Jn at sn hz4 ⊢
        have san := sam.trans sn
        refine ⟨_, rfl, LL, _, 0, _, rfl, rfl, .inl (.inl (san _ _ hLL)), atI_nat (j := 0) rfl, z4, q4, _, _, rfl, rfl, hz4, san _ _ hq4, ?_, fun z5 nz5 => ?_⟩
        · rw [row_len]
          have := line5
          split
          · show 0 + blen n4 ≤ sizeLine
            omega
          · show 1 + blen n4 ≤ sizeLine
            omega
        have er : (List.replicate (if n4 = 0 then 0 else 1) [V.int 0]).flatten ++ nats (rowOf n4) = nats (rowOf (n4 * 2)) := by
          by_cases z : n4 = 0
          · rw [if_pos z, z]
            rfl
          · rw [if_neg z, ← row_two z]
            rfl
        rw [er]
        have so : Same Jn (upd Jn z5 (.lst (nats (rowOf (n4 * 2))))) := same_upd nz5
        have skn : Same Jk Jn := sl.trans (sm.trans sn)
        have lm2 : blen (n4 * 2) ≤ 200 := by
          have := blen_shl (n := n4) (k := 1) (m := 61) (by omega)
          rw [Nat.shiftLeft_eq] at this
          exact Nat.le_trans this (by decide)
        refine ⟨o5, z5, n4 * 2, rfl, hk.same (skn.trans so), upd_same, lm2, fun Jp sp => ⟨true, rfl, iteT ?_⟩⟩
        have sap := san.trans (so.trans sp)
        exact ⟨_, rfl, p, rfl, pot_same gp sap, fun Jq pq kq => q Jq pq ((keep_same gk sap).trans kq)⟩
      · rw [show decide (V.int (d7 : Int) = V.int 0) = false from decide_eq_false fun z => d7z (by
          have := V.int.inj z
          omega)]
        refine iteF ?_
        -- from here: facts at the heap: hA1 hA2 hD1 v1 v2 hLL hq4 hq5, gp gk
        refine ⟨_, rfl, _, rfl, A1, A2, m1, m2, rfl, hA1, hA2, by omega, by omega, fun Ja sa => ⟨true, rfl, iteF ?_⟩⟩
        refine ⟨_, rfl, D1, _, 0, _, rfl, rfl, .inl (.inl (sa _ _ hD1)), atI_nat (j := 0) rfl, _, rfl, D1, _, 1, _, rfl, rfl, .inl (.inl (sa _ _ hD1)), atI_nat (j := 1) rfl, r1, r2, r1w, r2w, rfl, sa _ _ hr1, sa _ _ hr2, by omega, by omega, fun Jb sb => ⟨true, rfl, iteF ?_⟩⟩
        have sab := sa.trans sb
        refine ⟨_, rfl, LL, _, 0, _, rfl, rfl, .inl (.inl (sab _ _ hLL)), atI_nat (j := 0) rfl, q4, _, rfl, .inl (.inl (sab _ _ hq4)), n4, by rw [numB_rowOf], fun o1 Jc sc nc hc => ?_⟩
        have sac := sab.trans sc
        refine ⟨_, rfl, LL, _, 1, _, rfl, rfl, .inl (.inl (sac _ _ hLL)), atI_nat (j := 1) rfl, q5, _, rfl, .inl (.inl (sac _ _ hq5)), n5, by rw [numB_rowOf], fun o2 Jd sd nd hd => ?_⟩
        have sad := sac.trans sd
        have hc := hc.same sd
        obtain ⟨x1, eo1⟩ := id hc
        obtain ⟨x2, eo2⟩ := id hd
        refine ⟨_, _, rfl, ?_⟩
        refine ⟨_, rfl, _, rfl, o1, o2, x1, _, x2, _, rfl, rfl, eo1, eo2, o1, o2, n4, n5, rfl, hc, hd, ⟨by omega, by omega⟩, fun o3 Je se ne he => ?_⟩
        have sae := sad.trans se
        refine ⟨_, rfl, LL, _, 0, _, rfl, rfl, .inl (.inl (sae _ _ hLL)), atI_nat (j := 0) rfl, _, rfl, LL, _, 1, _, rfl, rfl, .inl (.inl (sae _ _ hLL)), atI_nat (j := 1) rfl, q4, q5, rowOf n4, rowOf n5, rfl, sae _ _ hq4, sae _ _ hq5, rowOf_bit, rowOf_bit, by rw [rowOf_length]; omega, by rw [rowOf_length]; omega, fun r6 Jf sf nf hf => ?_⟩
        dsimp only at hf
        rw [numB_rowOf, numB_rowOf] at hf
        refine ⟨o3, r6, n4 ^^^ n5, rfl, he.same sf, hf, Nat.le_trans (blen_xor (m := 60) (by omega) (by omega)) (by decide), fun Jg sg => ⟨true, rfl, iteF ?_⟩⟩
        have sag := sae.trans (sf.trans sg)
        refine ⟨Nat.zero_le _, fun z nz => ?_⟩
        have sh : Same Jg (upd Jg z (.lst [])) := same_upd nz
        have sah := sag.trans sh
        refine ⟨_, rfl, z, A1, 0, m1, rfl, upd_same, sah _ _ hA1, by decide, by omega, fun Ji si => ⟨true, rfl, iteF ?_⟩⟩
        have sai := sah.trans si
        have sdi : Same Jd Ji := (se.trans (sf.trans sg)).trans (sh.trans si)
        refine ⟨_, rfl, 2, rfl, fun o4 Jj sj nj hj => ?_⟩
        have sdj := sdi.trans sj
        have saj := sai.trans sj
        obtain ⟨x4, eo4⟩ := id hj
        refine ⟨o1, o4, x1, _, x4, _, rfl, rfl, sdj _ _ eo1, eo4, o1, o4, n4, 2, rfl, hc.same sdj, hj, ⟨by omega, by decide⟩, fun o5 Jk sk nk hk => ?_⟩
        have sak := saj.trans sk
        rw [pmul_two] at hk
        refine ⟨by show 1 ≤ sizeLine; decide, fun z2 nz2 => ?_⟩
        have sl : Same Jk (upd Jk z2 (.lst [.int 0])) := same_upd nz2
        have sal := sak.trans sl
        have hz2 : (upd Jk z2 (.lst [.int 0])) z2 = some (.lst [.int 0]) := upd_same
        generalize upd Jk z2 (.lst [.int 0]) = Jl at sl sal hz2 ⊢
        refine ⟨_, rfl, LL, _, 0, _, rfl, rfl, .inl (.inl (sal _ _ hLL)), atI_nat (j := 0) rfl, Nat.zero_le _, fun z3 nz3 => ?_⟩
        have sm : Same Jl (upd Jl z3 (.lst [])) := same_upd nz3
        have hz3 : (upd Jl z3 (.lst [])) z3 = some (.lst []) := upd_same
        generalize upd Jl z3 (.lst []) = Jm at sm hz3 ⊢
        have sam := sal.trans sm
        refine ⟨q4, _, z3, rfl, rfl, .inl (.inl (sam _ _ hq4)), .inl (.inl hz3), ok_row, .inr ⟨_, rfl, ?_⟩⟩
        rw [row_empty]
        have ez : ((if (!decide (n4 = 0)) = true then 1 else 0 : Int)).toNat = if n4 = 0 then 0 else 1 := by
          by_cases z : n4 = 0
          · rw [decide_eq_true z, if_pos z]
            rfl
          · rw [decide_eq_false z, if_neg z]
            rfl
        refine ⟨z2, _, _, rfl, rfl, sm _ _ hz2, by split <;> decide, by split <;> decide, ?_, fun z4 nz4 => ?_⟩
        · rw [ez]
          show 1 * _ ≤ _
          split <;> decide
        rw [ez]
        have sn : Same Jm (upd Jm z4 (.lst (List.replicate (if n4 = 0 then 0 else 1) [V.int 0]).flatten)) := same_upd nz4
        have hz4 : (upd Jm z4 (.lst (List.replicate (if n4 = 0 then 0 else 1) [V.int 0]).flatten)) z4 = some (.lst (List.replicate (if n4 = 0 then 0 else 1) [V.int 0]).flatten) := upd_same
        generalize upd Jm z4 (.lst (List.replicate (if n4 = 0 then 0 else 1) [V.int 0]).flatten) = Jn at sn hz4 ⊢
        have san := sam.trans sn
        refine ⟨_, rfl, LL, _, 0, _, rfl, rfl, .inl (.inl (san _ _ hLL)), atI_nat (j := 0) rfl, z4, q4, _, _, rfl, rfl, hz4, san _ _ hq4, ?_, fun z5 nz5 => ?_⟩
        · rw [row_len]
          have := line5
          split
          · show 0 + blen n4 ≤ sizeLine
            omega
          · show 1 + blen n4 ≤ sizeLine
            omega
        have er : (List.replicate (if n4 = 0 then 0 else 1) [V.int 0]).flatten ++ nats (rowOf n4) = nats (rowOf (n4 * 2)) := by
          by_cases z : n4 = 0
          · rw [if_pos z, z]
            rfl
          · rw [if_neg z, ← row_two z]
            rfl
        rw [er]
        have so : Same Jn (upd Jn z5 (.lst (nats (rowOf (n4 * 2))))) := same_upd nz5
        have skn : Same Jk Jn := sl.trans (sm.trans sn)
        have lm2 : blen (n4 * 2) ≤ 200 := by
          have := blen_shl (n := n4) (k := 1) (m := 61) (by omega)
          rw [Nat.shiftLeft_eq] at this
          exact Nat.le_trans this (by decide)
        refine ⟨o5, z5, n4 * 2, rfl, hk.same (skn.trans so), upd_same, lm2, fun Jp sp => ⟨true, rfl, iteT ?_⟩⟩
        have sap := san.trans (so.trans sp)
        exact ⟨_, rfl, p, rfl, pot_same gp sap, fun Jq pq kq => q Jq pq ((keep_same gk sap).trans kq)⟩
    · rw [show decide (V.int (d4 : Int) = V.int 0) = false from decide_eq_false fun z => d0 (by
        have := V.int.inj z
        omega)]
      refine iteF ?_
      obtain ⟨A1, rfl⟩ : ∃ A1, A1 = q1 := ⟨_, rfl⟩
      obtain ⟨A2, rfl⟩ : ∃ A2, A2 = q2 := ⟨_, rfl⟩
      have A1p := q1p
      have A2p := q2p
      have hA1 := h1
      have hA2 := h2
      have lm1 : blen n1 ≤ 20 := by omega
      have lm2 : blen n2 ≤ 20 := by omega
      generalize n1 = m1 at hA1 lm1
      generalize n2 = m2 at hA2 lm2
      -- from here: A1 A2 hold rows m1 m2 at the heap HB; gpB gkB
      refine ⟨_, rfl, p, 60, rfl, gp, by decide, fun q4 n4 Ha l4 pa ka f4 hq4 => ?_⟩
      have q4p : q4 ≠ p := Ne.symm (pot_ne gp f4)
      have hA1 := ka _ _ hA1 A1p
      have hA2 := ka _ _ hA2 A2p
      have gk := gk.trans ka
      refine ⟨_, rfl, by show 2 ≤ sizeLine; decide, fun L nL => ?_⟩
      have Lp : L ≠ p := Ne.symm (pot_ne pa nL)
      have sL : Same Ha (upd Ha L (.lst [.int 4, .int 60])) := same_upd nL
      have hA1 := sL _ _ hA1
      have hA2 := sL _ _ hA2
      have hq4 := sL _ _ hq4
      have gp := pot_same pa sL
      have gk := keep_same gk sL
      have hL : (upd Ha L (.lst [.int 4, .int 60])) L = some (.lst [.int 4, .int 60]) := upd_same
      generalize upd Ha L (.lst [.int 4, .int 60]) = Hb at sL hA1 hA2 hq4 gp gk hL ⊢
      refine ⟨_, rfl, p, 2, rfl, gp, by decide, by decide, fun d5 Hc hd5 pc kc => ?_⟩
      have hA1 := kc _ _ hA1 A1p
      have hA2 := kc _ _ hA2 A2p
      have hq4 := kc _ _ hq4 q4p
      have hL := kc _ _ hL Lp
      have gk := gk.trans kc
      obtain ⟨m5, e5, l5⟩ : ∃ m5 : Nat, atI ([.int 4, .int 60] : List V) (d5 : Int) = some (.int (m5 : Nat)) ∧ m5 ≤ 60 := by
        rcases (show d5 = 0 ∨ d5 = 1 by omega) with z | z <;> subst z
        · exact ⟨4, rfl, by decide⟩
        · exact ⟨60, rfl, by decide⟩
      refine ⟨L, _, _, _, rfl, rfl, .inl (.inl hL), e5, p, m5, rfl, pc, by omega, fun q5 n5 Hd l5' pd kd f5 hq5 => ?_⟩
      have q5p : q5 ≠ p := Ne.symm (pot_ne pc f5)
      have hA1 := kd _ _ hA1 A1p
      have hA2 := kd _ _ hA2 A2p
      have hq4 := kd _ _ hq4 q4p
      have gk := gk.trans kd
      refine ⟨by show 2 ≤ sizeLine; decide, fun LL nLL => ?_⟩
      have LLp : LL ≠ p := Ne.symm (pot_ne pd nLL)
      have sLL : Same Hd (upd Hd LL (.lst [.ref q4, .ref q5])) := same_upd nLL
      have hA1 := sLL _ _ hA1
      have hA2 := sLL _ _ hA2
      have hq4 := sLL _ _ hq4
      have hq5 := sLL _ _ hq5
      have gp := pot_same pd sLL
      have gk := keep_same gk sLL
      have hLL : (upd Hd LL (.lst [.ref q4, .ref q5])) LL = some (.lst [.ref q4, .ref q5]) := upd_same
      generalize upd Hd LL (.lst [.ref q4, .ref q5]) = He at sLL hA1 hA2 hq4 hq5 gp gk hLL ⊢
      refine ⟨_, rfl, LL, rfl, ⟨_, .inl (.inl hLL)⟩, fun D1 nD1 => ?_⟩
      refine lc_list (K := K) (a := LL) (xs := [.ref q4, .ref q5]) (fun i H' => Same He H' ∧ ∃ acc : List V, acc.length = i ∧ H' D1 = some (.lst acc) ∧ RowsAt H' D1 p acc) ⟨same_upd nD1, [], rfl, upd_same, fun v hv => nomatch hv⟩ (fun i H' _ z => .inl (.inl (z.1 _ _ hLL))) ?_ ?_
      · rintro i x Hx hx ⟨sm, acc, al, hd, ra⟩
        have fact : ∃ (qq : Addr) (nn : Nat), x = .ref qq ∧ Hx qq = some (.lst (nats (rowOf nn))) ∧ blen nn ≤ 60 := by
          match i, hx with
          | 0, hx => exact ⟨q4, n4, (Option.some.inj hx).symm, sm _ _ hq4, by omega⟩
          | 1, hx => exact ⟨q5, n5, (Option.some.inj hx).symm, sm _ _ hq5, by omega⟩
        obtain ⟨qq, nn, rfl, hqq, lnn⟩ := fact
        obtain ⟨gs, eg, gb, gl⟩ := cut_bits (rowOf_bit (n := nn)) none (some 24)
        refine ⟨rfl, _, rfl, 24, rfl, qq, _, rfl, .inl (.inl hqq), fun cc ncc => ?_⟩
        rw [eg]
        have sc1 : Same Hx (upd Hx cc (.lst (nats gs))) := same_upd ncc
        refine ⟨cc, gs, rfl, .inl (.inl upd_same), gb, fun rr Hy sy nr hr2 => ?_⟩
        have sxy := sc1.trans sy
        have nrx : Hx rr = none := sc1.free nr
        have rD : rr ≠ D1 := Ne.symm (ne_of_none hd nrx)
        rw [rowOf_length] at gl
        have lg := bits_blen gb
        have i2 : i < 2 := (List.getElem?_eq_some_iff.mp hx).1
        refine ⟨acc, sxy _ _ hd, ?_, same_put (sm.trans sxy) nD1, acc ++ [.ref rr], ?_, upd_same, fun v hv => ?_⟩
        · have := line5
          omega
        · rw [List.length_append, al]
          rfl
        · rcases List.mem_append.mp hv with z | z
          · obtain ⟨r, mm, e1, e2, e5, e3, e4⟩ := ra v z
            exact ⟨r, mm, e1, e2, e5, (upd_ne e2).trans (sxy _ _ e3), e4⟩
          · exact ⟨rr, _, List.mem_singleton.mp z, rD, Ne.symm (pot_ne (pot_same gp sm) nrx), (upd_ne rD).trans hr2, by omega⟩
      rintro Hf ⟨sF, accD1, alD1, hD1, raD1⟩
      obtain ⟨v1D1, v2D1, rfl⟩ := two_of alD1
      obtain ⟨r1, r1w, rfl, r1n, r1p, hr1, lr1⟩ := raD1 _ (List.mem_cons_self ..)
      obtain ⟨r2, r2w, rfl, r2n, r2p, hr2, lr2⟩ := raD1 _ (List.mem_cons_of_mem _ (List.mem_cons_self ..))
      have hA1 := sF _ _ hA1
      have hA2 := sF _ _ hA2
      have hq4 := sF _ _ hq4
      have hq5 := sF _ _ hq5
      have hLL := sF _ _ hLL
      have D1p : D1 ≠ p := Ne.symm (pot_ne gp nD1)
      have gp := pot_same gp sF
      have gk := keep_same gk sF
      refine ⟨_, rfl, LL, rfl, ⟨_, .inl (.inl hLL)⟩, fun D2 nD2 => ?_⟩
      refine lc_list (K := K) (a := LL) (xs := [.ref q4, .ref q5]) (fun i H' => Same Hf H' ∧ ∃ acc : List V, acc.length = i ∧ H' D2 = some (.lst acc) ∧ RowsAt H' D2 p acc) ⟨same_upd nD2, [], rfl, upd_same, fun v hv => nomatch hv⟩ (fun i H' _ z => .inl (.inl (z.1 _ _ hLL))) ?_ ?_
      · rintro i x Hx hx ⟨sm, acc, al, hd, ra⟩
        have fact : ∃ (qq : Addr) (nn : Nat), x = .ref qq ∧ Hx qq = some (.lst (nats (rowOf nn))) ∧ blen nn ≤ 60 := by
          match i, hx with
          | 0, hx => exact ⟨q4, n4, (Option.some.inj hx).symm, sm _ _ hq4, by omega⟩
          | 1, hx => exact ⟨q5, n5, (Option.some.inj hx).symm, sm _ _ hq5, by omega⟩
        obtain ⟨qq, nn, rfl, hqq, lnn⟩ := fact
        obtain ⟨gs, eg, gb, gl⟩ := cut_bits (rowOf_bit (n := nn)) none (some 49)
        refine ⟨rfl, _, rfl, 49, rfl, qq, _, rfl, .inl (.inl hqq), fun cc ncc => ?_⟩
        rw [eg]
        have sc1 : Same Hx (upd Hx cc (.lst (nats gs))) := same_upd ncc
        refine ⟨cc, gs, rfl, .inl (.inl upd_same), gb, fun rr Hy sy nr hr2 => ?_⟩
        have sxy := sc1.trans sy
        have nrx : Hx rr = none := sc1.free nr
        have rD : rr ≠ D2 := Ne.symm (ne_of_none hd nrx)
        rw [rowOf_length] at gl
        have lg := bits_blen gb
        have i2 : i < 2 := (List.getElem?_eq_some_iff.mp hx).1
        refine ⟨acc, sxy _ _ hd, ?_, same_put (sm.trans sxy) nD2, acc ++ [.ref rr], ?_, upd_same, fun v hv => ?_⟩
        · have := line5
          omega
        · rw [List.length_append, al]
          rfl
        · rcases List.mem_append.mp hv with z | z
          · obtain ⟨r, mm, e1, e2, e5, e3, e4⟩ := ra v z
            exact ⟨r, mm, e1, e2, e5, (upd_ne e2).trans (sxy _ _ e3), e4⟩
          · exact ⟨rr, _, List.mem_singleton.mp z, rD, Ne.symm (pot_ne (pot_same gp sm) nrx), (upd_ne rD).trans hr2, by omega⟩
      rintro Hg ⟨sG, accD2, alD2, hD2, raD2⟩
      obtain ⟨v1D2, v2D2, rfl⟩ := two_of alD2
      obtain ⟨t1, t1w, rfl, t1n, t1p, ht1, lt1⟩ := raD2 _ (List.mem_cons_self ..)
      obtain ⟨t2, t2w, rfl, t2n, t2p, ht2, lt2⟩ := raD2 _ (List.mem_cons_of_mem _ (List.mem_cons_self ..))
      have hA1 := sG _ _ hA1
      have hA2 := sG _ _ hA2
      have hq4 := sG _ _ hq4
      have hq5 := sG _ _ hq5
      have hLL := sG _ _ hLL
      have hD1 := sG _ _ hD1
      have hr1 := sG _ _ hr1
      have hr2 := sG _ _ hr2
      have D2p : D2 ≠ p := Ne.symm (pot_ne gp nD2)
      have gp := pot_same gp sG
      have gk := keep_same gk sG
      refine ⟨_, rfl, p, 3, rfl, gp, by decide, by decide, fun d7 Hh hd7 ph kh => ⟨rfl, _, rfl, ?_⟩⟩
      have hA1 := kh _ _ hA1 A1p
      have hA2 := kh _ _ hA2 A2p
      have hq4 := kh _ _ hq4 q4p
      have hq5 := kh _ _ hq5 q5p
      have hLL := kh _ _ hLL LLp
      have hD1 := kh _ _ hD1 D1p
      have hr1 := kh _ _ hr1 r1p
      have hr2 := kh _ _ hr2 r2p
      have hD2 := kh _ _ hD2 D2p
      have ht1 := kh _ _ ht1 t1p
      have ht2 := kh _ _ ht2 t2p
      have gk := gk.trans kh
      have gp := ph
      by_cases d7z : d7 = 0
      · subst d7z
        refine iteT ⟨_, rfl, D2, _, 0, _, rfl, rfl, .inl (.inl hD2), atI_nat (j := 0) rfl, _, rfl, D2, _, 1, _, rfl, rfl, .inl (.inl hD2), atI_nat (j := 1) rfl, t1, t2, t1w, t2w, rfl, ht1, ht2, by omega, by omega, fun Hi si => ⟨true, rfl, iteF ?_⟩⟩
        have hA1 := si _ _ hA1
        have hA2 := si _ _ hA2
        have hq4 := si _ _ hq4
        have hq5 := si _ _ hq5
        have hLL := si _ _ hLL
        have hD1 := si _ _ hD1
        have hr1 := si _ _ hr1
        have hr2 := si _ _ hr2
        have gp := pot_same gp si
        have gk := keep_same gk si
        -- from here: facts at the heap: hA1 hA2 hD1 v1 v2 hLL hq4 hq5, gp gk
        refine ⟨_, rfl, _, rfl, A1, A2, m1, m2, rfl, hA1, hA2, by omega, by omega, fun Ja sa => ⟨true, rfl, iteF ?_⟩⟩
        refine ⟨_, rfl, D1, _, 0, _, rfl, rfl, .inl (.inl (sa _ _ hD1)), atI_nat (j := 0) rfl, _, rfl, D1, _, 1, _, rfl, rfl, .inl (.inl (sa _ _ hD1)), atI_nat (j := 1) rfl, r1, r2, r1w, r2w, rfl, sa _ _ hr1, sa _ _ hr2, by omega, by omega, fun Jb sb => ⟨true, rfl, iteF ?_⟩⟩
        have sab := sa.trans sb
        refine ⟨_, rfl, LL, _, 0, _, rfl, rfl, .inl (.inl (sab _ _ hLL)), atI_nat (j := 0) rfl, q4, _, rfl, .inl (.inl (sab _ _ hq4)), n4, by rw [numB_rowOf], fun o1 Jc sc nc hc => ?_⟩
        have sac := sab.trans sc
        refine ⟨_, rfl, LL, _, 1, _, rfl, rfl, .inl (.inl (sac _ _ hLL)), atI_nat (j := 1) rfl, q5, _, rfl, .inl (.inl (sac _ _ hq5)), n5, by rw [numB_rowOf], fun o2 Jd sd nd hd => ?_⟩
        have sad := sac.trans sd
        have hc := hc.same sd
        obtain ⟨x1, eo1⟩ := id hc
        obtain ⟨x2, eo2⟩ := id hd
        refine ⟨_, _, rfl, ?_⟩
        refine ⟨_, rfl, _, rfl, o1, o2, x1, _, x2, _, rfl, rfl, eo1, eo2, o1, o2, n4, n5, rfl, hc, hd, ⟨by omega, by omega⟩, fun o3 Je se ne he => ?_⟩
        have sae := sad.trans se
        refine ⟨_, rfl, LL, _, 0, _, rfl, rfl, .inl (.inl (sae _ _ hLL)), atI_nat (j := 0) rfl, _, rfl, LL, _, 1, _, rfl, rfl, .inl (.inl (sae _ _ hLL)), atI_nat (j := 1) rfl, q4, q5, rowOf n4, rowOf n5, rfl, sae _ _ hq4, sae _ _ hq5, rowOf_bit, rowOf_bit, by rw [rowOf_length]; omega, by rw [rowOf_length]; omega, fun r6 Jf sf nf hf => ?_⟩
        dsimp only at hf
        rw [numB_rowOf, numB_rowOf] at hf
        refine ⟨o3, r6, n4 ^^^ n5, rfl, he.same sf, hf, Nat.le_trans (blen_xor (m := 60) (by omega) (by omega)) (by decide), fun Jg sg => ⟨true, rfl, iteF ?_⟩⟩
        have sag := sae.trans (sf.trans sg)
        refine ⟨Nat.zero_le _, fun z nz => ?_⟩
        have sh : Same Jg (upd Jg z (.lst [])) := same_upd nz
        have sah := sag.trans sh
        refine ⟨_, rfl, z, A1, 0, m1, rfl, upd_same, sah _ _ hA1, by decide, by omega, fun Ji si => ⟨true, rfl, iteF ?_⟩⟩
        have sai := sah.trans si
        have sdi : Same Jd Ji := (se.trans (sf.trans sg)).trans (sh.trans si)
        refine ⟨_, rfl, 2, rfl, fun o4 Jj sj nj hj => ?_⟩
        have sdj := sdi.trans sj
        have saj := sai.trans sj
        obtain ⟨x4, eo4⟩ := id hj
        refine ⟨o1, o4, x1, _, x4, _, rfl, rfl, sdj _ _ eo1, eo4, o1, o4, n4, 2, rfl, hc.same sdj, hj, ⟨by omega, by decide⟩, fun o5 Jk sk nk hk => ?_⟩
        have sak := saj.trans sk
        rw [pmul_two] at hk
        refine ⟨by show 1 ≤ sizeLine; decide, fun z2 nz2 => ?_⟩
        have sl : Same Jk (upd Jk z2 (.lst [.int 0])) := same_upd nz2
        have sal := sak.trans sl
        have hz2 : (upd Jk z2 (.lst [.int 0])) z2 = some (.lst [.int 0]) := upd_same
        generalize upd Jk z2 (.lst [.int 0]) = Jl at sl sal hz2 ⊢
        refine ⟨_, rfl, LL, _, 0, _, rfl, rfl, .inl (.inl (sal _ _ hLL)), atI_nat (j := 0) rfl, Nat.zero_le _, fun z3 nz3 => ?_⟩
        have sm : Same Jl (upd Jl z3 (.lst [])) := same_upd nz3
        have hz3 : (upd Jl z3 (.lst [])) z3 = some (.lst []) := upd_same
        generalize upd Jl z3 (.lst []) = Jm at sm hz3 ⊢
        have sam := sal.trans sm
        refine ⟨q4, _, z3, rfl, rfl, .inl (.inl (sam _ _ hq4)), .inl (.inl hz3), ok_row, .inr ⟨_, rfl, ?_⟩⟩
        rw [row_empty]
        have ez : ((if (!decide (n4 = 0)) = true then 1 else 0 : Int)).toNat = if n4 = 0 then 0 else 1 := by
          by_cases z : n4 = 0
          · rw [decide_eq_true z, if_pos z]
            rfl
          · rw [decide_eq_false z, if_neg z]
            rfl
        refine ⟨z2, _, _, rfl, rfl, sm _ _ hz2, by split <;> decide, by split <;> decide, ?_, fun z4 nz4 => ?_⟩
        · rw [ez]
          show 1 * _ ≤ _
          split <;> decide
        rw [ez]
        have sn : Same Jm (upd Jm z4 (.lst (List.replicate (if n4 = 0 then 0 else 1) [V.int 0]).flatten)) := same_upd nz4
        have hz4 : (upd Jm z4 (.lst (List.replicate (if n4 = 0 then 0 else 1) [V.int 0]).flatten)) z4 = some (.lst (List.replicate (if n4 = 0 then 0 else 1) [V.int 0]).flatten) := upd_same
        generalize upd Jm z4 (.lst (List.replicate (if n4 = 0 then 0 else 1) [V.int 0]).flatten) = Jn at sn hz4 ⊢
        have san := sam.trans sn
        refine ⟨_, rfl, LL, _, 0, _, rfl, rfl, .inl (.inl (san _ _ hLL)), atI_nat (j := 0) rfl, z4, q4, _, _, rfl, rfl, hz4, san _ _ hq4, ?_, fun z5 nz5 => ?_⟩
        · rw [row_len]
          have := line5
          split
          · show 0 + blen n4 ≤ sizeLine
            omega
          · show 1 + blen n4 ≤ sizeLine
            omega
        have er : (List.replicate (if n4 = 0 then 0 else 1) [V.int 0]).flatten ++ nats (rowOf n4) = nats (rowOf (n4 * 2)) := by
          by_cases z : n4 = 0
          · rw [if_pos z, z]
            rfl
          · rw [if_neg z, ← row_two z]
            rfl
        rw [er]
        have so : Same Jn (upd Jn z5 (.lst (nats (rowOf (n4 * 2))))) := same_upd nz5
        have skn : Same Jk Jn := sl.trans (sm.trans sn)
        have lm2 : blen (n4 * 2) ≤ 200 := by
          have := blen_shl (n := n4) (k := 1) (m := 61) (by omega)
          rw [Nat.shiftLeft_eq] at this
          exact Nat.le_trans this (by decide)
        refine ⟨o5, z5, n4 * 2, rfl, hk.same (skn.trans so), upd_same, lm2, fun Jp sp => ⟨true, rfl, iteT ?_⟩⟩
        have sap := san.trans (so.trans sp)
        exact ⟨_, rfl, p, rfl, pot_same gp sap, fun Jq pq kq => q Jq pq ((keep_same gk sap).trans kq)⟩
      · rw [show decide (V.int (d7 : Int) = V.int 0) = false from decide_eq_false fun z => d7z (by
          have := V.int.inj z
          omega)]
        refine iteF ?_
        -- from here: facts at the heap: hA1 hA2 hD1 v1 v2 hLL hq4 hq5, gp gk
        refine ⟨_, rfl, _, rfl, A1, A2, m1, m2, rfl, hA1, hA2, by omega, by omega, fun Ja sa => ⟨true, rfl, iteF ?_⟩⟩
        refine ⟨_, rfl, D1, _, 0, _, rfl, rfl, .inl (.inl (sa _ _ hD1)), atI_nat (j := 0) rfl, _, rfl, D1, _, 1, _, rfl, rfl, .inl (.inl (sa _ _ hD1)), atI_nat (j := 1) rfl, r1, r2, r1w, r2w, rfl, sa _ _ hr1, sa _ _ hr2, by omega, by omega, fun Jb sb => ⟨true, rfl, iteF ?_⟩⟩
        have sab := sa.trans sb
        refine ⟨_, rfl, LL, _, 0, _, rfl, rfl, .inl (.inl (sab _ _ hLL)), atI_nat (j := 0) rfl, q4, _, rfl, .inl (.inl (sab _ _ hq4)), n4, by rw [numB_rowOf], fun o1 Jc sc nc hc => ?_⟩
        have sac := sab.trans sc
        refine ⟨_, rfl, LL, _, 1, _, rfl, rfl, .inl (.inl (sac _ _ hLL)), atI_nat (j := 1) rfl, q5, _, rfl, .inl (.inl (sac _ _ hq5)), n5, by rw [numB_rowOf], fun o2 Jd sd nd hd => ?_⟩
        have sad := sac.trans sd
        have hc := hc.same sd
        obtain ⟨x1, eo1⟩ := id hc
        obtain ⟨x2, eo2⟩ := id hd
        refine ⟨_, _, rfl, ?_⟩
        refine ⟨_, rfl, _, rfl, o1, o2, x1, _, x2, _, rfl, rfl, eo1, eo2, o1, o2, n4, n5, rfl, hc, hd, ⟨by omega, by omega⟩, fun o3 Je se ne he => ?_⟩
        have sae := sad.trans se
        refine ⟨_, rfl, LL, _, 0, _, rfl, rfl, .inl (.inl (sae _ _ hLL)), atI_nat (j := 0) rfl, _, rfl, LL, _, 1, _, rfl, rfl, .inl (.inl (sae _ _ hLL)), atI_nat (j := 1) rfl, q4, q5, rowOf n4, rowOf n5, rfl, sae _ _ hq4, sae _ _ hq5, rowOf_bit, rowOf_bit, by rw [rowOf_length]; omega, by rw [rowOf_length]; omega, fun r6 Jf sf nf hf => ?_⟩
        dsimp only at hf
        rw [numB_rowOf, numB_rowOf] at hf
        refine ⟨o3, r6, n4 ^^^ n5, rfl, he.same sf, hf, Nat.le_trans (blen_xor (m := 60) (by omega) (by omega)) (by decide), fun Jg sg => ⟨true, rfl, iteF ?_⟩⟩
        have sag := sae.trans (sf.trans sg)
        refine ⟨Nat.zero_le _, fun z nz => ?_⟩
        have sh : Same Jg (upd Jg z (.lst [])) := same_upd nz
        have sah := sag.trans sh
        refine ⟨_, rfl, z, A1, 0, m1, rfl, upd_same, sah _ _ hA1, by decide, by omega, fun Ji si => ⟨true, rfl, iteF ?_⟩⟩
        have sai := sah.trans si
        have sdi : Same Jd Ji := (se.trans (sf.trans sg)).trans (sh.trans si)
        refine ⟨_, rfl, 2, rfl, fun o4 Jj sj nj hj => ?_⟩
        have sdj := sdi.trans sj
        have saj := sai.trans sj
        obtain ⟨x4, eo4⟩ := id hj
        refine ⟨o1, o4, x1, _, x4, _, rfl, rfl, sdj _ _ eo1, eo4, o1, o4, n4, 2, rfl, hc.same sdj, hj, ⟨by omega, by decide⟩, fun o5 Jk sk nk hk => ?_⟩
        have sak := saj.trans sk
        rw [pmul_two] at hk
        refine ⟨by show 1 ≤ sizeLine; decide, fun z2 nz2 => ?_⟩
        have sl : Same Jk (upd Jk z2 (.lst [.int 0])) := same_upd nz2
        have sal := sak.trans sl
        have hz2 : (upd Jk z2 (.lst [.int 0])) z2 = some (.lst [.int 0]) := upd_same
        generalize upd Jk z2 (.lst [.int 0]) = Jl at sl sal hz2 ⊢
        refine ⟨_, rfl, LL, _, 0, _, rfl, rfl, .inl (.inl (sal _ _ hLL)), atI_nat (j := 0) rfl, Nat.zero_le _, fun z3 nz3 => ?_⟩
        have sm : Same Jl (upd Jl z3 (.lst [])) := same_upd nz3
        have hz3 : (upd Jl z3 (.lst [])) z3 = some (.lst []) := upd_same
        generalize upd Jl z3 (.lst []) = Jm at sm hz3 ⊢
        have sam := sal.trans sm
        refine ⟨q4, _, z3, rfl, rfl, .inl (.inl (sam _ _ hq4)), .inl (.inl hz3), ok_row, .inr ⟨_, rfl, ?_⟩⟩
        rw [row_empty]
        have ez : ((if (!decide (n4 = 0)) = true then 1 else 0 : Int)).toNat = if n4 = 0 then 0 else 1 := by
          by_cases z : n4 = 0
          · rw [decide_eq_true z, if_pos z]
            rfl
          · rw [decide_eq_false z, if_neg z]
            rfl
        refine ⟨z2, _, _, rfl, rfl, sm _ _ hz2, by split <;> decide, by split <;> decide, ?_, fun z4 nz4 => ?_⟩
        · rw [ez]
          show 1 * _ ≤ _
          split <;> decide
        rw [ez]
        have sn : Same Jm (upd Jm z4 (.lst (List.replicate (if n4 = 0 then 0 else 1) [V.int 0]).flatten)) := same_upd nz4
        have hz4 : (upd Jm z4 (.lst (List.replicate (if n4 = 0 then 0 else 1) [V.int 0]).flatten)) z4 = some (.lst (List.replicate (if n4 = 0 then 0 else 1) [V.int 0]).flatten) := upd_same
        generalize upd Jm z4 (.lst (List.replicate (if n4 = 0 then 0 else 1) [V.int 0]).flatten) = Jn at sn hz4 ⊢
        have san := sam.trans sn
        refine ⟨_, rfl, LL, _, 0, _, rfl, rfl, .inl (.inl (san _ _ hLL)), atI_nat (j := 0) rfl, z4, q4, _, _, rfl, rfl, hz4, san _ _ hq4, ?_, fun z5 nz5 => ?_⟩
        · rw [row_len]
          have := line5
          split
          · show 0 + blen n4 ≤ sizeLine
            omega
          · show 1 + blen n4 ≤ sizeLine
            omega
        have er : (List.replicate (if n4 = 0 then 0 else 1) [V.int 0]).flatten ++ nats (rowOf n4) = nats (rowOf (n4 * 2)) := by
          by_cases z : n4 = 0
          · rw [if_pos z, z]
            rfl
          · rw [if_neg z, ← row_two z]
            rfl
        rw [er]
        have so : Same Jn (upd Jn z5 (.lst (nats (rowOf (n4 * 2))))) := same_upd nz5
        have skn : Same Jk Jn := sl.trans (sm.trans sn)
        have lm2 : blen (n4 * 2) ≤ 200 := by
          have := blen_shl (n := n4) (k := 1) (m := 61) (by omega)
          rw [Nat.shiftLeft_eq] at this
          exact Nat.le_trans this (by decide)
        refine ⟨o5, z5, n4 * 2, rfl, hk.same (skn.trans so), upd_same, lm2, fun Jp sp => ⟨true, rfl, iteT ?_⟩⟩
        have sap := san.trans (so.trans sp)
        exact ⟨_, rfl, p, rfl, pot_same gp sap, fun Jq pq kq => q Jq pq ((keep_same gk sap).trans kq)⟩
end
end K61

set_option maxHeartbeats 4000000
namespace K61
open PySem PySem.Spec PyProof.Rows L2 Bx
section
variable {P : Program} {w : World} {K : PySem.W.Frag} {mg : Str → Option Value} {base : Heap}
theorem sc_law : FnScope ["_law_script", "_law_k"] ["_law_script"] (defScope (top 40)) := ⟨rfl, rfl, rfl, by decide +kernel, rfl, by decide +kernel, by decide +kernel⟩
theorem ok_law (T : Txt K mg) (C_law_pot : CallF P w K mg base CX0 1 "_law_pot" ["_law_script", "_law_k"] (sp_pot K)) (C_law_right : CallG P w K mg base CX0 8 "_law_right" ["_law_pot_here"] sp_right) :
    CallG P w K mg base CX0 9 "law" ["_law_script"] (sp_law K) := by
  refine callG_of T.d_law sc_law (fun _ _ _ _ _ _ us hl => match us, hl with | [_], _ => rfl) (fun vs H Q E h => ?_) (fun cdv A outer s H vs Q E hr gd h => ?_)
  · obtain ⟨a, ns, rfl, _⟩ := h
    rfl
  · obtain ⟨a, ns, rfl, hS, hl, q⟩ := h
    refine ⟨_, (pss_one (ps_ret (pe_callB (cr_all rfl) (by rfl) T.b_all bb_all (pa_cons (pe_lc (own := [("_law_k", 1)]) (by rfl) sc_law.nd (pi_range1 (by rfl) T.b_range (pa_cons (pe_callB (call_max2 rfl) (by rfl) T.b_max bb_max (pa_cons pe_int (pa_cons (pe_callB (call_min2 rfl) (by rfl) T.b_min bb_min (pa_cons (pe_callB call_len_seq (by rfl) T.b_len bb_len (pa_cons (pv 0) pa_nil)) (pa_cons pe_int pa_nil))) pa_nil))) pa_nil)) (blkOk_by (own := [("_law_k", 1)]) (N := ["_law_script", "_law_k"]) (sc := defScope (top 40)) (by decide +kernel)) (fun _ _ _ _ _ => (pg_name (i := 1) sc_law.nd rfl (.inl rfl))) (fun _ _ _ _ _ => pts_nil) (fun _ _ _ _ _ => (pe_fg C_law_right (hr.mono (by decide)) gd (by rfl) pass0 (pa_cons (pe_f C_law_pot (hr.mono (by decide)) (by rfl) pass0 (pa_cons (pv 0) (pa_cons (pv 1) pa_nil))) pa_nil)))) pa_nil)))), ?_⟩
    refine ⟨_, rfl, a, _, rfl, .inl hS, _, _, rfl, _, _, rfl, ?_⟩
    have hj : ∃ j : Nat, (if (if (3 : Int) < ((ns.map V.int).length : Int) then (3 : Int) else ((ns.map V.int).length : Int)) > (1 : Int) then (if (3 : Int) < ((ns.map V.int).length : Int) then (3 : Int) else ((ns.map V.int).length : Int)) else (1 : Int)) = (j : Int) ∧ j ≤ 3 := by
      rw [List.length_map]
      refine ⟨max 1 (min ns.length 3), ?_, by omega⟩
      repeat' split
      all_goals omega
    obtain ⟨j, ej, j6⟩ := hj
    show ∃ j : Int, _ ∧ _
    rw [ej]
    refine ⟨j, rfl, by omega, by omega, fun D nD => ?_⟩
    rw [Int.toNat_natCast]
    refine lc_range (lo := 0) (n := j) (fun i H' => Same H H' ∧ H' D = some (.lst ((List.replicate i true).map V.bl))) ⟨same_upd nD, upd_same⟩ ?_ ?_
    · rintro i H' hi ⟨sm, hd⟩
      refine ⟨rfl, _, rfl, _, rfl, a, ns, i, by simp, sm.seq hS, by omega, fun p H2 s2 np hp => ?_⟩
      refine ⟨p, rfl, hp, fun H3 p3 k3 => ?_⟩
      have Dp : D ≠ p := ne_of_none hd np
      have hd3 := k3 _ _ (s2 _ _ hd) Dp
      refine ⟨_, hd3, ?_, ?_, ?_⟩
      · rw [List.length_map, List.length_replicate]
        exact small1000 (by omega)
      · intro b o e
        have nb : b ≠ D := ne_of_none e nD
        rw [upd_ne nb]
        refine k3 _ _ (s2 _ _ (sm _ _ e)) ?_
        exact ne_of_none (sm _ _ e) np
      · rw [upd_same, List.replicate_succ']
        simp
    · rintro H' ⟨sm, hd⟩
      refine ⟨D, List.replicate j true, rfl, .inl (.inl hd), ?_⟩
      have e : (List.replicate j true).all id = true := by simp
      rw [e]
      exact q H'

end
theorem all_ok {P : Program} {w : World} {K : PySem.W.Frag} {mg : Str → Option Value} {base : Heap} (T : Txt K mg) : CallG P w K mg base CX0 9 "law" ["_law_script"] (sp_law K) := by
  have a1 := ok_is_natural (P := P) (w := w) (base := base) T
  have a2 := ok_degree_of (P := P) (w := w) (base := base) T
  have a3 := ok_product_of (P := P) (w := w) (base := base) T
  have a4 := ok_division_of T a2
  have a5 := ok_quotient_of T a4
  have a6 := ok_remainder_of T a4
  have a7 := ok_divisor_of T a6
  have a8 := ok_power_of T a6 a3
  have a9 := ok_term_text (P := P) (w := w) (base := base) T
  have a10 := ok_text_of T a2 a9
  have b1 := ok_init T a1
  have b2 := ok_word (P := P) (w := w) (base := base) T
  have b3 := ok_degree T a2
  have b4 := ok_word_in T b2
  have b5 := ok_divisor_in T b4
  have b6 := ok_add T b1 b4
  have b7 := ok_mul T b1 b4 a3
  have b8 := ok_floordiv T b1 b4 b5 a5
  have b9 := ok_mod T b1 b4 b5 a6
  have b10 := ok_gcd T b1 b4 a7
  have b11 := ok_power_mod T b1 b4 b5 a8 a1
  have b12 := ok_eq T b2
  have b13 := ok_str T a10
  have b14 := ok_repr T a10
  have d1 := ok_pot (P := P) (w := w) (base := base) T
  have d2 := ok_draw (P := P) (w := w) (base := base) T
  have d4 := ok_bare (P := P) (w := w) (base := base) T
  have d5 := ok_list T d2 d4
  have d6 := ok_number (P := P) (w := w) (base := base) T
  have d7 := ok_sum T d4
  have d8 := ok_product T d4
  have d9 := ok_divided T d4
  have d10 := ok_common T d9
  have d11 := ok_power T d9 d8
  have d12 := ok_line (P := P) (w := w) (base := base) T
  have d13 := ok_is T b1 b2 b3 b13 b14 b12 d6 d12
  have d14 := ok_pair T b1 b6 b7 b8 b9 b10 b12 d6 d7 d8 d9 d10 d13
  have d15 := ok_great T b1 b7 b8 b9 d6 d8 d9 d13
  have d16 := ok_powers T b1 b11 d2 d5 d6 d11 d13
  have d17 := ok_right T b1 b6 b7 d2 d4 d5 d6 d7 d8 d13 d14 d15 d16
  exact ok_law T d1 d17
end K61

set_option maxHeartbeats 0
namespace K61
open PySem PySem.Spec PyProof.Rows L2 Bx
def dd (x : Str) (st : Stmt) : He5.DefA := ⟨fun K => He.ga K x, x, x, defArgs st, defBody st, defScope st, [], []⟩
def dm (a : PySem.W.Frag → Addr) (x q : Str) (st : Stmt) : He5.DefA := ⟨a, x, q, defArgs st, defBody st, defScope st, [], []⟩
def fn : List He5.DefA := ([dd "_wall" (top 0), dd "is_natural" (top 9), dd "degree_of" (top 10), dd "product_of" (top 11), dd "division_of" (top 12), dd "quotient_of" (top 13), dd "remainder_of" (top 14), dd "divisor_of" (top 15), dd "power_of" (top 16), dd "term_text" (top 17), dd "text_of" (top 18), dd "word_in" (top 20), dd "divisor_in" (top 21), dd "_law_pot" (top 23), dd "_law_draw" (top 24), dd "_law_pick" (top 25), dd "_law_bare" (top 26), dd "_law_list" (top 27), dd "_law_number" (top 28), dd "_law_sum" (top 29), dd "_law_product" (top 30), dd "_law_divided" (top 31), dd "_law_common" (top 32), dd "_law_power" (top 33), dd "_law_line" (top 34), dd "_law_is" (top 35), dd "_law_pair_right" (top 36), dd "_law_powers_right" (top 37), dd "_law_great_right" (top 38), dd "_law_right" (top 39)] : List He5.DefA) ++ ([dd "law" (top 40), dm (fun K => He.ma K (He.ga K "Polynomial") "__init__") "__init__" "Polynomial.__init__" (inClass (top 19) 0), dm (fun K => pgA K (He.ga K "Polynomial") "word") "word" "Polynomial.word" (inClass (top 19) 2), dm (fun K => pgA K (He.ga K "Polynomial") "degree") "degree" "Polynomial.degree" (inClass (top 19) 3), dm (fun K => He.ma K (He.ga K "Polynomial") "__add__") "__add__" "Polynomial.__add__" (inClass (top 19) 4), dm (fun K => He.ma K (He.ga K "Polynomial") "__mul__") "__mul__" "Polynomial.__mul__" (inClass (top 19) 5), dm (fun K => He.ma K (He.ga K "Polynomial") "__floordiv__") "__floordiv__" "Polynomial.__floordiv__" (inClass (top 19) 6), dm (fun K => He.ma K (He.ga K "Polynomial") "__mod__") "__mod__" "Polynomial.__mod__" (inClass (top 19) 7), dm (fun K => He.ma K (He.ga K "Polynomial") "gcd") "gcd" "Polynomial.gcd" (inClass (top 19) 8), dm (fun K => He.ma K (He.ga K "Polynomial") "power_mod") "power_mod" "Polynomial.power_mod" (inClass (top 19) 9), dm (fun K => He.ma K (He.ga K "Polynomial") "__eq__") "__eq__" "Polynomial.__eq__" (inClass (top 19) 10), dm (fun K => He.ma K (He.ga K "Polynomial") "__str__") "__str__" "Polynomial.__str__" (inClass (top 19) 11), dm (fun K => He.ma K (He.ga K "Polynomial") "__repr__") "__repr__" "Polynomial.__repr__" (inClass (top 19) 12)] : List He5.DefA)
def fa : List He.Fa := ([.glo "_wall", .glo "is_natural", .glo "degree_of", .glo "product_of", .glo "division_of", .glo "quotient_of", .glo "remainder_of", .glo "divisor_of", .glo "power_of", .glo "term_text", .glo "text_of", .glo "word_in", .glo "divisor_in", .glo "_law_pot", .glo "_law_draw", .glo "_law_pick", .glo "_law_bare", .glo "_law_list", .glo "_law_number", .glo "_law_sum", .glo "_law_product", .glo "_law_divided", .glo "_law_common", .glo "_law_power"] : List He.Fa) ++ ([.glo "_law_line", .glo "_law_is", .glo "_law_pair_right", .glo "_law_powers_right", .glo "_law_great_right", .glo "_law_right", .glo "law", .free "abs", .free "all", .free "bool", .free "classmethod", .free "divmod", .free "enumerate", .free "int", .free "isinstance", .free "len", .free "list", .free "max", .free "min", .free "property", .free "range", .free "repr", .free "reversed", .free "str"] : List He.Fa) ++ ([.free "zip", .int "STRIDE" 16, .glo "Polynomial"] : List He.Fa)
def exs (K : PySem.W.Frag) : List Bool := [ownB K (He.ga K "Polynomial"), He.eqO (PySem.W.findIn K (.ref (He.ga K "Polynomial")) "__ne__") (some (some (.builtin "object.__ne__"))), methB K (He.ga K "Polynomial") "__init__", methB K (He.ga K "Polynomial") "__add__", methB K (He.ga K "Polynomial") "__mul__", methB K (He.ga K "Polynomial") "__floordiv__", methB K (He.ga K "Polynomial") "__mod__", methB K (He.ga K "Polynomial") "gcd", methB K (He.ga K "Polynomial") "power_mod", methB K (He.ga K "Polynomial") "__eq__", methB K (He.ga K "Polynomial") "__str__", methB K (He.ga K "Polynomial") "__repr__", propB K (He.ga K "Polynomial") "word", propB K (He.ga K "Polynomial") "degree", noatB K (He.ga K "Polynomial") "own_word"]
def ex (K : PySem.W.Frag) : Bool := (exs K).all id
theorem ex_at {K : PySem.W.Frag} (h : ex K = true) (i : Nat) {b : Bool} (e : (exs K)[i]? = some b) : b = true := List.all_eq_true.mp h b (List.mem_of_getElem? e)
abbrev R : PySem.W.OpenRow := PySem.W.OpenLaw.row PySem.Challenge.rw_bitlaid_k61_polynomials_by_lists
abbrev hk : PySem.W.Hook := HeX.hookF 6 fa fn ex
def ob (s : PySem.W.SharedT) : HeX.AlE := HeX.obsFG 6 fa fn ex (HandSHeadRun.getT s)
theorem ob_eq (s : PySem.W.SharedT) : ob s = hk.obs s.abs := HeX.obsFG_eq (HandSHeadRun.getT_eq s)
def loose : List Str := (["_wall", "BitlaidError", "InvalidExponent", "InvalidPolynomial", "ZeroPolynomial", "STRIDE", "is_natural", "degree_of", "product_of", "division_of", "quotient_of", "remainder_of", "divisor_of", "power_of", "term_text", "text_of", "Polynomial", "word_in", "divisor_in", "_law_pot", "_law_draw", "_law_pick", "_law_bare", "_law_list"] : List Str) ++ (["_law_number", "_law_sum", "_law_product", "_law_divided", "_law_common", "_law_power", "_law_line", "_law_is", "_law_pair_right", "_law_powers_right", "_law_great_right", "_law_right"] : List Str)
theorem run (w : World) : HandSHeadRun.RunEq R (PySem.W.view R.prog [40]) hk ob 30000 loose w := by
  intro os
  kernel_rfl
theorem def_at {K : PySem.W.Frag} {h : Heap} {mg : Str → Option Value} (X : K.In h) (G : h.Ns mainGlobals mg) (c : HeX.SaysF fa fn ex K) (i j : Nat) {x : Str} {st : Stmt} (hd : fn[i]? = some (dd x st)) (hf : fa[j]? = some (.glo x)) : DefAt K mg x st := by
  obtain ⟨fd, F⟩ := c.d.def_ i hd
  exact ⟨fd, F, He.glo_ok X G (c.d.fact j hf)⟩
theorem def_m {K : PySem.W.Frag} (c : HeX.SaysF fa fn ex K) (i : Nat) {a : PySem.W.Frag → Addr} {x q : Str} {st : Stmt} (hd : fn[i]? = some (dm a x q st)) : DefM K (a K) x q st [] := c.d.def_ i hd
theorem txt_of {K : PySem.W.Frag} {h : Heap} {mg : Str → Option Value} (X : K.In h) (G : h.Ns mainGlobals mg) (c : HeX.SaysF fa fn ex K) : Txt K mg where
  b_abs := He.free_ok X G (c.d.fact 31 (f := .free "abs") rfl)
  b_all := He.free_ok X G (c.d.fact 32 (f := .free "all") rfl)
  b_bool := He.free_ok X G (c.d.fact 33 (f := .free "bool") rfl)
  b_classmethod := He.free_ok X G (c.d.fact 34 (f := .free "classmethod") rfl)
  b_divmod := He.free_ok X G (c.d.fact 35 (f := .free "divmod") rfl)
  b_enumerate := He.free_ok X G (c.d.fact 36 (f := .free "enumerate") rfl)
  b_int := He.free_ok X G (c.d.fact 37 (f := .free "int") rfl)
  b_isinstance := He.free_ok X G (c.d.fact 38 (f := .free "isinstance") rfl)
  b_len := He.free_ok X G (c.d.fact 39 (f := .free "len") rfl)
  b_list := He.free_ok X G (c.d.fact 40 (f := .free "list") rfl)
  b_max := He.free_ok X G (c.d.fact 41 (f := .free "max") rfl)
  b_min := He.free_ok X G (c.d.fact 42 (f := .free "min") rfl)
  b_property := He.free_ok X G (c.d.fact 43 (f := .free "property") rfl)
  b_range := He.free_ok X G (c.d.fact 44 (f := .free "range") rfl)
  b_repr := He.free_ok X G (c.d.fact 45 (f := .free "repr") rfl)
  b_reversed := He.free_ok X G (c.d.fact 46 (f := .free "reversed") rfl)
  b_str := He.free_ok X G (c.d.fact 47 (f := .free "str") rfl)
  b_zip := He.free_ok X G (c.d.fact 48 (f := .free "zip") rfl)
  c_STRIDE := He.int_ok X G (c.d.fact 49 (f := .int "STRIDE" 16) rfl)
  k_Polynomial := He.glo_ok X G (c.d.fact 50 (f := .glo "Polynomial") rfl)
  o_Polynomial := ownB_ok (ex_at c.more 0 rfl)
  ne_Polynomial := He.eqO_ok (ex_at c.more 1 rfl)
  m_Polynomial_init := methB_ok (ex_at c.more 2 rfl)
  m_Polynomial_add := methB_ok (ex_at c.more 3 rfl)
  m_Polynomial_mul := methB_ok (ex_at c.more 4 rfl)
  m_Polynomial_floordiv := methB_ok (ex_at c.more 5 rfl)
  m_Polynomial_mod := methB_ok (ex_at c.more 6 rfl)
  m_Polynomial_gcd := methB_ok (ex_at c.more 7 rfl)
  m_Polynomial_power_mod := methB_ok (ex_at c.more 8 rfl)
  m_Polynomial_eq := methB_ok (ex_at c.more 9 rfl)
  m_Polynomial_str := methB_ok (ex_at c.more 10 rfl)
  m_Polynomial_repr := methB_ok (ex_at c.more 11 rfl)
  p_Polynomial_word := propB_ok (ex_at c.more 12 rfl)
  p_Polynomial_degree := propB_ok (ex_at c.more 13 rfl)
  n_Polynomial_own_word := noatB_ok (ex_at c.more 14 rfl)
  d_wall := def_at X G c 0 0 rfl rfl
  d_is_natural := def_at X G c 1 1 rfl rfl
  d_degree_of := def_at X G c 2 2 rfl rfl
  d_product_of := def_at X G c 3 3 rfl rfl
  d_division_of := def_at X G c 4 4 rfl rfl
  d_quotient_of := def_at X G c 5 5 rfl rfl
  d_remainder_of := def_at X G c 6 6 rfl rfl
  d_divisor_of := def_at X G c 7 7 rfl rfl
  d_power_of := def_at X G c 8 8 rfl rfl
  d_term_text := def_at X G c 9 9 rfl rfl
  d_text_of := def_at X G c 10 10 rfl rfl
  d_word_in := def_at X G c 11 11 rfl rfl
  d_divisor_in := def_at X G c 12 12 rfl rfl
  d_law_pot := def_at X G c 13 13 rfl rfl
  d_law_draw := def_at X G c 14 14 rfl rfl
  d_law_pick := def_at X G c 15 15 rfl rfl
  d_law_bare := def_at X G c 16 16 rfl rfl
  d_law_list := def_at X G c 17 17 rfl rfl
  d_law_number := def_at X G c 18 18 rfl rfl
  d_law_sum := def_at X G c 19 19 rfl rfl
  d_law_product := def_at X G c 20 20 rfl rfl
  d_law_divided := def_at X G c 21 21 rfl rfl
  d_law_common := def_at X G c 22 22 rfl rfl
  d_law_power := def_at X G c 23 23 rfl rfl
  d_law_line := def_at X G c 24 24 rfl rfl
  d_law_is := def_at X G c 25 25 rfl rfl
  d_law_pair_right := def_at X G c 26 26 rfl rfl
  d_law_powers_right := def_at X G c 27 27 rfl rfl
  d_law_great_right := def_at X G c 28 28 rfl rfl
  d_law_right := def_at X G c 29 29 rfl rfl
  d_law := def_at X G c 30 30 rfl rfl
  d_Polynomial_init := def_m c 31 rfl
  d_Polynomial_word := def_m c 32 rfl
  d_Polynomial_degree := def_m c 33 rfl
  d_Polynomial_add := def_m c 34 rfl
  d_Polynomial_mul := def_m c 35 rfl
  d_Polynomial_floordiv := def_m c 36 rfl
  d_Polynomial_mod := def_m c 37 rfl
  d_Polynomial_gcd := def_m c 38 rfl
  d_Polynomial_power_mod := def_m c 39 rfl
  d_Polynomial_eq := def_m c 40 rfl
  d_Polynomial_str := def_m c 41 rfl
  d_Polynomial_repr := def_m c 42 rfl
abbrev level : Nat := 9
theorem ending {P : Program} {w : World} {K : PySem.W.Frag} {h : Heap} {mg : Str → Option Value} {f : Addr} (X : K.In h) (G : h.Ns mainGlobals mg) (c : HeX.SaysF fa fn ex K) (hf : mg ("law" : Str) = some (.ref f)) :
    ∃ (K : PySem.W.Frag) (fd : FuncData) (sp : Sp), K.In h ∧ (∀ (s : Shared) (u : Value), BindsTo s fd ⟨[u], []⟩ [("_law_script", u)]) ∧
      (∀ (H : Hp) (a : Addr) (ns : List Int), ns.length ≤ 63 → SqL K H a (ns.map V.int) → sp [.ref a] H (fun v _ => v = .bl true) fun _ _ _ => False) ∧
      ∀ base : Heap, K.In base → base.Ns mainGlobals mg → FnOkG P w K mg base CX0 level f fd ["_law_script"] sp := by
  have T := txt_of X G c
  obtain ⟨fd, F, hm⟩ := T.d_law
  have e := hf.symm.trans hm
  cases e
  have b := FunD.bindsA (ps := ["_law_script"]) F fun _ _ _ _ _ _ us hl => match us, hl with | [_], _ => rfl
  refine ⟨K, fd, sp_law K, X, fun s v => b s [v] rfl, fun H a ns hl hS => ⟨a, ns, rfl, hS, hl, fun _ => rfl⟩, fun base _ _ => ?_⟩
  exact fd_of F (all_ok (P := P) (w := w) (base := base) T)

end K61
open PySem PySem.W PySem.Calls PyProof.Rows
theorem PySem.Challenge.cw_bitlaid_k61_polynomials_by_lists_holds : PySem.Challenge.rw_bitlaid_k61_polynomials_by_lists.Holds := by
  w_on; o_law
  refine HandSHeadRun.head_any (r := OpenLaw.row PySem.Challenge.rw_bitlaid_k61_polynomials_by_lists) (q := view (OpenLaw.row PySem.Challenge.rw_bitlaid_k61_polynomials_by_lists).prog [40]) (H := K61.hk) (ob := K61.ob) (M := 30000) (loose := K61.loose)
    (d := HandSHeadRun.topDef (OpenLaw.row PySem.Challenge.rw_bitlaid_k61_polynomials_by_lists).prog 40) (kwd := []) K61.ob_eq (by kernel_rfl) (fun s => by kernel_rfl) K61.run
    (by kernel_rfl) (by kernel_rfl) (by kernel_rfl) (by rfl) (by first | assumption | decide +kernel) (by decide +kernel) ⟨rfl, rfl, rfl, rfl, rfl, by decide +kernel⟩ ?hw ?hc
  case hw => w_witness2
  case hc =>
    refine Bx.walkG (l := PySem.Challenge.rw_bitlaid_k61_polynomials_by_lists) (n := 63) (k := K61.level) (x := "_law_script") rfl (by decide) (by kernel_rfl) ⟨rfl, by decide, by decide⟩ ?F
    intro w mg fa h Y G hm0
    obtain ⟨K, KX, c⟩ := Y
    have hm : mg ("law" : PySem.Str) = some (.ref fa) := by
      have e : (HandSHeadRun.topDef (OpenLaw.row PySem.Challenge.rw_bitlaid_k61_polynomials_by_lists).prog 40).name = ("law" : PySem.Str) := by kernel_rfl
      rw [← e]
      exact hm0
    exact K61.ending KX G c hm

