import PyProof.Rows.All
import Wide.All
import OpenK.AllK
import Wide.FinOn
import PyProof.ReprReads
import PyProof.ReprRoads
import KE.KStateDown
import HandS.ForMost
import HandS.More
import HandS.Exc
import HandS.WordsExc
import HandS.Defaults
import HandS.IsInst
import HandS.Flow
import HandS.WideBits
import HandS.RaiseMore
import HandS.Head0
import HandS.Head1
import HandS.Head2
import HandS.HeadEnd
import HandS.HeadHook1
import HandS.HeadHook2
import HandS.Style
import HandS.TupLe
import PyProof.EnumMake
import PyProof.Draws
import HandS.Zip0
import HandS.Walk
import PyProof.ReprLen
import PySem.Challenge.RW_bitlaid_k11_words
set_option Elab.async false
set_option linter.all false
set_option maxRecDepth 100000
set_option maxHeartbeats 4000000
namespace Bx
open PySem PySem.Spec PyProof.Rows L2
/-! ## defs that run where no repr is under way -/
/-- as FnOk, at surroundings without a repr under way -/
structure FnOkG (P : Program) (w : World) (K : PySem.W.Frag) (mg : Str → Option Value) (base : Heap)
    (CX : CXT) (k : Nat) (f : Addr) (fd : FuncData) (ps : List Str) (sp : Sp) : Prop where
  len : ∀ vs H Q E, sp vs H Q E → vs.length = ps.length
  run : ∀ (A : Around) (outer : List Env) (s : Shared) (H : Hp) (args : Args) (us : List Value) (vs : List V)
    (Q : VK) (E : XK), Room k A → A.guards = some [] → Env0 P w K mg base A outer s H →
    BindsTo s fd args (ps.zip us) → Vals vs us → sp vs H Q E →
    codeAny (model P w) A (.call (.ref f) args) (CR CX outer P w H s Q E) s
section
variable {P : Program} {w : World} {K : PySem.W.Frag} {mg : Str → Option Value} {base : Heap} {CX : CXT}
theorem FnOkG.mono {j k : Nat} {f : Addr} {fd : FuncData} {ps : List Str} {sp : Sp}
    (F : FnOkG P w K mg base CX j f fd ps sp) (h : j ≤ k) : FnOkG P w K mg base CX k f fd ps sp :=
  ⟨F.len, fun A o s H args us vs Q E r => F.run A o s H args us vs Q E (r.mono h)⟩
/-- a def's body, walked with no repr under way -/
theorem okG {x qual : Str} {params : Arguments} {body : List Stmt} {scope : Scope} {dvs : List V}
    {kws : List (Str × V)} {f : Addr} {fd : FuncData} {N ps : List Str} {k : Nat} {sp : Sp}
    (F : FunD K x qual params body scope dvs kws f fd) (S : FnScope N ps scope)
    (len : ∀ vs H Q E, sp vs H Q E → vs.length = ps.length)
    (hbody : ∀ (cdv : Value) (A : Around) (outer : List Env) (s : Shared) (H : Hp) (vs : List V) (Q : VK) (E : XK),
      Room k (A.deeper (envOfC qual scope s.heap.objs.size f cdv)) → A.guards = some [] → sp vs H Q E →
      ∃ t, PSs (cxOf CX P w K mg base N qual scope f cdv A outer s H E) body t ∧
        t { nx := fun _ H' => Q .non H', rt := Q } (start N vs) H) :
    FnOkG P w K mg base CX (k + 1) f fd ps sp := by
  obtain ⟨oc, od, dV, kV, doc, pm, an, cdv, ct, osl, rfl, lk, hcd, _, _⟩ := F.ex
  refine ⟨len, fun A outer s H args us vs Q E hr hgd e0 hb r hsp => ?_⟩
  have hl := len _ _ _ _ hsp
  have KX : K.In s.heap := e0.mod.kin.keeps fun b o e => (e0.bs b o e).1
  have lim : s.heap.NoLimit := e0.mod.nolimit.keeps fun b o e => (e0.bs b o e).1
  have kinds : ∀ y ∈ ps.zip us, scope.names.lookup y.1 = some .local ∨
      (scope.names.lookup y.1 = some .cell ∧ ((cellsFrom (s.heap.objs.size + 1) scope.names []).lookup y.1).isSome = true) := by
    rintro ⟨n, v⟩ hy
    cases S.par n (List.of_mem_zip hy).1 with
    | inl q => exact .inl q
    | inr q => exact .inr ⟨q, PySem.W.cellsFrom_some _ _ _ (.inl q)⟩
  refine codeAny_call_function hr.depth (KX _ _ lk) rfl S.co S.gen rfl (PySem.W.codeRec_of KX hcd) (hb _ _ _ _ ?_)
  refine wpAny_newFunctionEnv_cells S.kind kinds fun env he s1 y => ?_
  subst he
  refine ⟨lim.keeps y.toInCall.keep, codeAny_func ?_⟩
  obtain ⟨t, ht, hq⟩ := hbody cdv A outer s H vs Q E (hr.deeper _) hgd hsp
  have I := inv_start (CX := CX) (P := P) (w := w) (K := K) (mg := mg) (base := base) (E := E) S hr.hd e0 hl r y
  refine wpAny_mono (ht.run [] s1 (start N vs) H _ I hq) (fun fl s' hs => ?_) fun e s' hs => hs
  cases fl with
  | ret u =>
    obtain ⟨v, σ', H', J, rv, q⟩ := hs
    exact ⟨v, H', J.os, J.bare, J.base, J.hok, rv, q⟩
  | next =>
    obtain ⟨σ', H', J, q⟩ := hs
    exact ⟨.non, H', J.os, J.bare, J.base, J.hok, rfl, q⟩
  | brk =>
    obtain ⟨_, _, _, q⟩ := hs
    exact q.elim
  | cont =>
    obtain ⟨_, _, _, q⟩ := hs
    exact q.elim
/-- a call, f(e, ..), of such a def -/
theorem pe_callG {X : Cx} {k : Nat} {f : Addr} {fd : FuncData} {ps : List Str} {sp : Sp} {dvs : List V}
    {ds : List Value} {E : XK} {x : Str} {p pos : Pos} {e : Expr} {es : List Expr} {t : TA}
    (F : FnOkG X.prog X.w X.K X.mg X.base CX k f fd ps sp) (hr : Room k X.A) (gd : X.A.guards = some [])
    (hg : Gl X x) (hm : X.mg x = some (.ref f)) (hk : PySem.W.keepIn X.K (.ref f) = true)
    (hb : Binds X.K fd ps ds) (hd : Vals dvs ds) (hx : Passes CX X E) (ha : PA X (e :: es) t)
    (hdb : (x == ("__debug__" : Str)) = false := by decide)
    (he : starEach (e :: es) X.env = (false, eval e X.env) :: starEach es X.env := by rfl)
    (hpl : (backTo pos (starEach es X.env)).any (·.1) = false := by rfl) :
    PE X (.Call (.Name x p) (e :: es) [] pos) (tCall sp dvs E t) := by
  refine ⟨fun pins s σ H Q I h => wpAny_Call_Name_kw (ld_glob I hg hm ?_ hdb)⟩
  refine PySem.W.callWith_K (h₀ := X.base) I.ok.mod.kin hk
    (thn (ha.run pos pins s σ H _ I h) fun us s1 ⟨vs, H1, I1, r, q⟩ => ⟨I1.kIn, ?_⟩) he hpl
  have r2 : Vals (vs ++ dvs) (us ++ ds) := r.append hd
  have hl : (us ++ ds).length = ps.length := by
    rw [← r2.length]
    exact F.len _ _ _ _ q
  refine wpAny_call (codeAny_mono (F.run X.A X.stack s1 H1 ⟨us, []⟩ (us ++ ds) (vs ++ dvs) Q E hr gd I1.env0
    (hb s1 us I1.kIn hl) r2 q) fun r s' hq => ?_)
  cases r with
  | error e => exact hx pins σ H1 s1 e s' I1 hq
  | ok fl =>
    cases fl with
    | ret u => exact I1.after hq
    | next => exact hq.elim
    | brk => exact hq.elim
    | cont => exact hq.elim
end
/-! ## repr of data -/
/-- repr(x), x data of any depth up to 50 -/
theorem call_repr {X : Cx} (gd : X.A.guards = some []) (hu : X.A.units + 64 < cLine) :
    CallR X (.builtin "repr") (fun xs H Q => ∃ v d, xs = [v] ∧ Dp X.K H v d ∧ d.showable = true ∧
      d.hasDict = false ∧ d.depth ≤ 50 ∧ d.shown.length ≤ sizeLine ∧ Q (.str d.shown) H) := by
  intro pins s σ H xs us Q I r h
  obtain ⟨v, d, rfl, hd, hs, hn, hp, hz, q⟩ := h
  obtain ⟨u, rfl, ru⟩ := vals1 r
  obtain ⟨as, rd⟩ := Dp.reads I d v u hd ru
  cases hd with
  | non =>
    cases ru
    exact PySem.P.repr_of_none ⟨.str _, H, I.tok _, ⟨_, rfl⟩, q⟩
  | bl b =>
    cases ru
    refine PySem.P.repr_of_bool ⟨.str _, H, I.tok _, ⟨_, rfl⟩, ?_⟩
    exact q
  | int i =>
    obtain ⟨t, rfl⟩ := ru
    exact PySem.P.repr_of_int (of_decide_eq_true hs) ⟨.str _, H, I.tok _, ⟨_, rfl⟩, q⟩
  | str x =>
    obtain ⟨t, rfl⟩ := ru
    exact PySem.P.repr_of_str ⟨.str _, H, I.tok _, ⟨_, rfl⟩, q⟩ hz
  | lst hS hA =>
    obtain rfl : u = Value.ref _ := ru
    refine repr_of_reads' rd hs (PyData.noDict_hsm hn) gd (by omega) (fun _ _ e => e) (fun h' u' tk hk => ?_) hz
    exact ⟨.str _, H, I.kept hk, ⟨_, rfl⟩, q⟩
  | tup hS hA =>
    obtain rfl : u = Value.ref _ := ru
    refine repr_of_reads' rd hs (PyData.noDict_hsm hn) gd (by omega) (fun _ _ e => e) (fun h' u' tk hk => ?_) hz
    exact ⟨.str _, H, I.kept hk, ⟨_, rfl⟩, q⟩
/-! ## the law's own call -/
/-- the objects that are known before the law's call, apart from the script -/
theorem hid_ns {h : Heap} {H : Hp} {a : Addr} {vs : List Value}
    (ha : h.get? a = some { cls := .type "list", data := .seq vs.toArray }) (only : ∀ b, H b ≠ none → b = a)
    {b : Addr} {m : Str → Option Value} (n : h.Ns b m) : (hidT h H).Ns b m := by
  obtain ⟨o, es, ep, e, d, r⟩ := n
  refine ⟨o, es, ep, hidT_get e ?_, d, r⟩
  cases q : H b with
  | none => rfl
  | some u =>
    have eb := only b (fun z => by
      rw [q] at z
      cases z)
    subst eb
    rw [ha] at e
    cases e
    cases d
/-- the end of a law whose def is walked with no repr under way -/
theorem law_callG {P : Program} {w : World} {K : PySem.W.Frag} {mg mb : Str → Option Value} {k : Nat} {fa a : Addr}
    {fd : FuncData} {x : Str} {sp : Sp} {s₁ : Shared} {vs : List Value} {ns : List Int}
    (KX : K.In s₁.heap) (hns : s₁.heap.Ns mainGlobals mg) (hb : s₁.heap.Ns builtinsNs mb)
    (hbb : ∀ x : Str, x ≠ "__name__" → mb x = bootBuiltins x) (lim : s₁.heap.NoLimit) (hg : s₁.gens = #[])
    (ha : s₁.heap.get? a = some { cls := .type "list", data := .seq vs.toArray }) (hi : IntsAre vs ns)
    (hl : ns.length ≤ sizeLine) (hr : Room k callerA)
    (F : ∀ base : Heap, K.In base → base.Ns mainGlobals mg → FnOkG P w K mg base CX0 k fa fd [x] sp)
    (bind : ∀ (s : Shared) (u : Value), BindsTo s fd ⟨[u], []⟩ [(x, u)])
    (hsp : ∀ H : Hp, SqL K H a (ns.map V.int) → sp [.ref a] H (fun v _ => v = .bl true) fun _ _ _ => False) :
    codeAny (model P w) callerA (.call (.ref fa) ⟨[.ref a], []⟩)
      (fun r s' => r = .ok (.ret (.bool true)) ∧ OldK s₁.heap s'.heap ∧ s'.os = s₁.os ∧ AllBare s'.gens) s₁ := by
  have rv := vals_ints hi
  have key : ∀ H : Hp, Only H → SqL K H a (ns.map V.int) → HOk P w H s₁.heap → (∀ b, H b ≠ none → b = a) →
      (H a ≠ none → K.lookup a = none) → codeAny (model P w) callerA (.call (.ref fa) ⟨[.ref a], []⟩)
      (fun r s' => r = .ok (.ret (.bool true)) ∧ OldK s₁.heap s'.heap ∧ s'.os = s₁.os ∧ AllBare s'.gens) s₁ := by
    intro H hO hS hok only nk
    have kb : K.In (hidT s₁.heap H) := by
      intro b o e
      refine hidT_get (KX b o e) ?_
      cases q : H b with
      | none => rfl
      | some u =>
        have nb : H b ≠ none := fun z => by
          rw [q] at z
          cases z
        have eb := only b nb
        subst eb
        rw [nk nb] at e
        cases e
    obtain ⟨mc, l1, l2⟩ := lim
    have M : Mod K mg (hidT s₁.heap H) := ⟨kb, hid_ns ha only hns, ⟨mb, hid_ns ha only hb, hbb⟩, mc, hid_ns ha only l1, l2⟩
    have e0 : Env0 P w K mg (hidT s₁.heap H) callerA [] s₁ H :=
      { frames := rfl, mod := M, bs := fun b o e => of_hidT e, bsz := Nat.le_of_eq (hidT_size _ _), funs := trivial,
        frf := fun b z => (nomatch (show b ∈ ([] : List Addr) from z)), hok := hok, bare := .of_eq hg }
    have run := (F _ kb (hid_ns ha only hns)).run callerA [] s₁ H ⟨[.ref a], []⟩ [.ref a] [.ref a] _ _ hr rfl e0
      (bind s₁ (.ref a)) (.cons rfl .nil) (hsp H hS)
    refine codeAny_mono run fun r s' h => ?_
    cases r with
    | error e => exact h.elim
    | ok fl =>
      cases fl with
      | next => exact h.elim
      | brk => exact h.elim
      | cont => exact h.elim
      | ret u =>
        obtain ⟨v, H', os, bare, un, hok', rel, q⟩ := h
        have ev : v = .bl true := q
        subst ev
        obtain rfl : u = Value.bool true := rel
        refine ⟨rfl, OldK.of_keep ?_, os, bare⟩
        intro b o e
        cases q : H b with
        | none => exact un.keep b o e q (fun z => nomatch (show b ∈ ([] : List Addr) from z)) (fun z => nomatch z)
        | some u =>
          rcases hO b with z | ⟨ob, xs, z⟩
          · rw [q] at z
            cases z
          · obtain ⟨e1, _⟩ := hok b _ z
            obtain ⟨e2, _⟩ := hok' b _ (un.frzs b ob _ z)
            rw [e] at e1
            cases e1
            exact e2
  cases hk : K.lookup a with
  | some o =>
    have e := KX a o hk
    rw [ha] at e
    cases e
    refine key (fun _ => none) (fun _ => .inl rfl) (.inr ⟨_, vs.toArray, _, hk, rfl, rfl, rfl, ?_, by simpa using rv⟩)
      (fun b u z => nomatch (show (none : Option HO) = some u from z)) (fun b z => (z rfl).elim) (fun z => (z rfl).elim)
    rw [List.size_toArray, hi.length]
    exact hl
  | none =>
    have at_ : ∀ b, b = a → (upd (fun _ => none) a (.frz { cls := .type "list", data := .seq vs.toArray } (.lst (ns.map V.int)))) b = some (.frz { cls := .type "list", data := .seq vs.toArray } (.lst (ns.map V.int))) := fun b e => by
      rw [e, upd_same]
    have off : ∀ b, b ≠ a → (upd (fun _ => none) a (.frz { cls := .type "list", data := .seq vs.toArray } (.lst (ns.map V.int)))) b = none := fun b e => upd_ne e
    refine key (upd (fun _ => none) a (.frz { cls := .type "list", data := .seq vs.toArray } (.lst (ns.map V.int)))) ?_
      (.inl (.inr ⟨_, at_ a rfl⟩)) ?_ ?_ (fun _ => hk)
    · intro b
      by_cases e : b = a
      · exact .inr ⟨_, _, at_ b e⟩
      · exact .inl (off b e)
    · intro b u z
      by_cases e : b = a
      · rw [at_ b e] at z
        cases z
        subst e
        refine ⟨ha, ?_, vs, _, rv, ha⟩
        rw [List.length_map]
        exact hl
      · rw [off b e] at z
        cases z
    · intro b z
      by_cases e : b = a
      · exact e
      · exact (z (off b e)).elim
theorem walkG {l : PySem.W.OpenLaw} {n k : Nat} {q : Program} {loose : List Str}
    {XP : (Str → Option Value) → Heap → Prop} {YP : World → Heap → Prop} {d : DefRec} {x : Str}
    (hn : l.most = some n) (hn2 : n ≤ sizeLine) (hdf : d.params.defaults = []) (hr : Room k callerA)
    (F : ∀ (w : World) (mg : Str → Option Value) (fa : Addr) (h : Heap), YP w h → h.Ns mainGlobals mg →
      mg d.name = some (.ref fa) → ∃ (K : PySem.W.Frag) (fd : FuncData) (sp : Sp), K.In h ∧
        (∀ (s : Shared) (u : Value), BindsTo s fd ⟨[u], []⟩ [(x, u)]) ∧
        (∀ (H : Hp) (a : Addr) (ns : List Int), ns.length ≤ n → SqL K H a (ns.map V.int) →
          sp [.ref a] H (fun v _ => v = .bl true) fun _ _ _ => False) ∧
        ∀ base : Heap, K.In base → base.Ns mainGlobals mg → FnOkG l.prog w K mg base CX0 k fa fd [x] sp) :
    PySem.W.WalkO q loose XP YP l.row.toRowW d [] (fun f vs => PySem.call f vs) := by
  refine Att.attach_call hn hdf fun w s₀ s₁ mg mb fa o pm cd doc a vs ns G Y ho hd hcd hmg hobj hints hlen hg => ?_
  obtain ⟨K, fd, sp, KX, hb, hsp, hF⟩ := F w mg fa _ Y G.T.g hmg
  exact law_callG KX G.T.g G.T.b G.T.builtins G.T.nolimit hg hobj hints (Nat.le_trans hlen hn2) hr hF hb
    (fun H hS => hsp H a ns hlen hS)
end Bx
namespace HeX
open PySem PySem.Spec PyProof.Rows L2 He
abbrev AlE : Type := AlD × Bool
def obsE (fa : List Fa) (fn : List DefD) (ex : PySem.W.Frag → Bool) (K : PySem.W.Frag) : AlE := (obsD fa fn K, ex K)
def obsEG (n : Nat) (fa : List Fa) (fn : List DefD) (ex : PySem.W.Frag → Bool) (g : Addr → Option Obj) : AlE := obsE fa fn ex (frG g (asD g n))
structure SaysE (fa : List Fa) (fn : List DefD) (ex : PySem.W.Frag → Bool) (K : PySem.W.Frag) : Prop where
  d : SaysD fa fn K
  more : ex K = true
def hookE (n : Nat) (fa : List Fa) (fn : List DefD) (ex : PySem.W.Frag → Bool) : PySem.W.Hook where
  α := AlE
  obs := fun s => obsEG n fa fn ex s.heap.get?
  val := fun _ => (valD fn, true)
  says := fun _ h => ∃ K : PySem.W.Frag, K.In h ∧ SaysE fa fn ex K
  of := fun _ _ e => ⟨_, frG_in, congrArg (fun z : AlE => z.1) e, congrArg (fun z : AlE => z.2) e⟩
  keeps := fun _ _ _ ⟨K, hK, c⟩ k => ⟨K, PySem.W.Frag.In.keeps hK k, c⟩
theorem obsEG_eq {n : Nat} {fa : List Fa} {fn : List DefD} {ex : PySem.W.Frag → Bool} {g : Addr → Option Obj} {s : Shared}
    (h : ∀ a, g a = s.heap.get? a) : obsEG n fa fn ex g = (hookE n fa fn ex).obs s := by
  have e : g = s.heap.get? := funext h
  rw [e] <;> rfl
end HeX

set_option maxHeartbeats 4000000
namespace Bx
open PySem PySem.Spec PyProof.Rows L2
/-! ## defs of the top by their names -/
abbrev FnP (K : PySem.W.Frag) (x : Str) (st : Stmt) (f : Addr) (fd : FuncData) : Prop :=
  FunD K x x (defArgs st) (defBody st) (defScope st) [] [] f fd
/-- the def st of the text stands under the module's name x -/
def DefAt (K : PySem.W.Frag) (mg : Str → Option Value) (x : Str) (st : Stmt) : Prop :=
  ∃ fd, FnP K x st (He.ga K x) fd ∧ mg x = some (.ref (He.ga K x))
/-- the def under the name x keeps a promise -/
structure CallF (P : Program) (w : World) (K : PySem.W.Frag) (mg : Str → Option Value) (base : Heap) (CX : CXT)
    (k : Nat) (x : Str) (ps : List Str) (sp : Sp) : Prop where
  ex : ∃ fd, FnOk P w K mg base CX k (He.ga K x) fd ps sp ∧ mg x = some (.ref (He.ga K x)) ∧
    PySem.W.keepIn K (.ref (He.ga K x)) = true ∧ Binds K fd ps [] ∧ ∃ st, FnP K x st (He.ga K x) fd
structure CallG (P : Program) (w : World) (K : PySem.W.Frag) (mg : Str → Option Value) (base : Heap) (CX : CXT)
    (k : Nat) (x : Str) (ps : List Str) (sp : Sp) : Prop where
  ex : ∃ fd, FnOkG P w K mg base CX k (He.ga K x) fd ps sp ∧ mg x = some (.ref (He.ga K x)) ∧
    PySem.W.keepIn K (.ref (He.ga K x)) = true ∧ Binds K fd ps [] ∧ ∃ st, FnP K x st (He.ga K x) fd
/-- one address, one def -/
theorem fnP_inj {K : PySem.W.Frag} {x : Str} {st st' : Stmt} {f : Addr} {fd fd' : FuncData} (D : FnP K x st f fd) (D' : FnP K x st' f fd') : fd = fd' := by
  obtain ⟨_, _, _, _, _, _, _, _, _, _, _, l1, _⟩ := D.ex
  obtain ⟨_, _, _, _, _, _, _, _, _, _, _, l2, _⟩ := D'.ex
  rw [l1] at l2
  injection l2 with l3
  injection l3 with _ _ l4 _
  injection l4
theorem fd_of {P : Program} {w : World} {K : PySem.W.Frag} {mg : Str → Option Value} {base : Heap} {CX : CXT} {k : Nat} {x : Str} {ps : List Str} {sp : Sp} {st : Stmt} {fd : FuncData}
    (D : FnP K x st (He.ga K x) fd) (C : CallG P w K mg base CX k x ps sp) : FnOkG P w K mg base CX k (He.ga K x) fd ps sp := by
  obtain ⟨fd2, F, _, _, _, st2, D2⟩ := C.ex
  rw [fnP_inj D D2]
  exact F
section
variable {P : Program} {w : World} {K : PySem.W.Frag} {mg : Str → Option Value} {base : Heap} {CX : CXT}
/-- how the parameters of the def st bind, all given by position -/
def BindOk (x : Str) (st : Stmt) (ps : List Str) : Prop :=
  ∀ (kV doc pm : Value) (an : Option Addr) (cdv ct : Value) (us : List Value), us.length = ps.length →
    bindArgs (PySem.W.fnOf x x (defArgs st) (defBody st) (defScope st) .none kV doc pm an cdv ct) ⟨us, []⟩ = pure (ps.zip us)
theorem callF_of {x : Str} {st : Stmt} {N ps : List Str} {k : Nat} {sp : Sp} (D : DefAt K mg x st)
    (S : FnScope N ps (defScope st)) (hb : BindOk x st ps) (len : ∀ vs H Q E, sp vs H Q E → vs.length = ps.length)
    (body : ∀ (cdv : Value) (A : Around) (outer : List Env) (s : Shared) (H : Hp) (vs : List V) (Q : VK) (E : XK),
      Room k (A.deeper (envOfC x (defScope st) s.heap.objs.size (He.ga K x) cdv)) → sp vs H Q E →
      ∃ t, PSs (cxOf CX P w K mg base N x (defScope st) (He.ga K x) cdv A outer s H E).nox (defBody st) t ∧
        t { nx := fun _ H' => Q .non H', rt := Q } (start N vs) H) :
    CallF P w K mg base CX (k + 1) x ps sp := by
  obtain ⟨fd, F, hm⟩ := D
  exact ⟨fd, F.ok S len fun cdv A outer s H vs Q E hr h => let ⟨t, a, b⟩ := body cdv A outer s H vs Q E hr h; ⟨t, PSs.nox a, b⟩, hm, F.kp, F.bindsN hb, st, F⟩
theorem callG_of {x : Str} {st : Stmt} {N ps : List Str} {k : Nat} {sp : Sp} (D : DefAt K mg x st)
    (S : FnScope N ps (defScope st)) (hb : BindOk x st ps) (len : ∀ vs H Q E, sp vs H Q E → vs.length = ps.length)
    (body : ∀ (cdv : Value) (A : Around) (outer : List Env) (s : Shared) (H : Hp) (vs : List V) (Q : VK) (E : XK),
      Room k (A.deeper (envOfC x (defScope st) s.heap.objs.size (He.ga K x) cdv)) → A.guards = some [] → sp vs H Q E →
      ∃ t, PSs (cxOf CX P w K mg base N x (defScope st) (He.ga K x) cdv A outer s H E).nox (defBody st) t ∧
        t { nx := fun _ H' => Q .non H', rt := Q } (start N vs) H) :
    CallG P w K mg base CX (k + 1) x ps sp := by
  obtain ⟨fd, F, hm⟩ := D
  exact ⟨fd, okG F S len fun cdv A outer s H vs Q E hr gd h => let ⟨t, a, b⟩ := body cdv A outer s H vs Q E hr gd h; ⟨t, PSs.nox a, b⟩, hm, F.kp, F.bindsN hb, st, F⟩
end
section
variable {X : Cx} {CX : CXT} {k : Nat} {x : Str} {ps : List Str} {sp : Sp} {E : XK} {p pos : Pos} {e : Expr}
  {es : List Expr} {t : TA}
theorem pe_f (C : CallF X.prog X.w X.K X.mg X.base CX k x ps sp) (hr : Room k X.A) (hg : Gl X x) (hx : Passes CX X E)
    (ha : PA X (e :: es) t) (hdb : (x == ("__debug__" : Str)) = false := by decide)
    (he : starEach (e :: es) X.env = (false, eval e X.env) :: starEach es X.env := by rfl)
    (hpl : (backTo pos (starEach es X.env)).any (·.1) = false := by rfl) :
    PE X (.Call (.Name x p) (e :: es) [] pos) (tCall sp [] E t) := by
  obtain ⟨fd, F, hm, kp, b, _⟩ := C.ex
  exact pe_call F hr hg hm kp b .nil hx ha hdb he hpl
theorem pe_fg (C : CallG X.prog X.w X.K X.mg X.base CX k x ps sp) (hr : Room k X.A) (gd : X.A.guards = some [])
    (hg : Gl X x) (hx : Passes CX X E) (ha : PA X (e :: es) t) (hdb : (x == ("__debug__" : Str)) = false := by decide)
    (he : starEach (e :: es) X.env = (false, eval e X.env) :: starEach es X.env := by rfl)
    (hpl : (backTo pos (starEach es X.env)).any (·.1) = false := by rfl) :
    PE X (.Call (.Name x p) (e :: es) [] pos) (tCall sp [] E t) := by
  obtain ⟨fd, F, hm, kp, b, _⟩ := C.ex
  exact pe_callG F hr gd hg hm kp b .nil hx ha hdb he hpl
/-- how a call by names alone binds: g brings the keywords' values into the parameters' order -/
structure KwOk (fd : FuncData) (ps ks : List Str) (g : {α : Type} → List α → List α) : Prop where
  to : ∀ (s : Shared) (ws : List Value), ws.length = ks.length → BindsTo s fd ⟨[], ks.zip ws⟩ (ps.zip (g ws))
  rel : ∀ {zs : List V} {ws : List Value}, Vals zs ws → Vals (g zs) (g ws)
/-- f(k = v, ..): nothing by position -/
theorem pe_fk0 {ks : List Str} {g : {α : Type} → List α → List α} {kws : List Keyword} {tk : TA} {st : Stmt}
    (C : CallF X.prog X.w X.K X.mg X.base CX k x ps sp) (D : DefAt X.K X.mg x st) (hr : Room k X.A) (hg : Gl X x)
    (kb : ∀ fd, FnP X.K x st (He.ga X.K x) fd → KwOk fd ps ks @g) (hx : Passes CX X E) (hkw : PK X kws tk)
    (hall : (backToKw pos (keywordEach kws X.env)).all (·.1.isSome) = true := by rfl)
    (hks : (backToKw pos (keywordEach kws X.env)).filterMap (·.1) = ks := by rfl)
    (hpl : ((backTo pos (starEach [] X.env)).any (·.1) || (backToKw pos (keywordEach kws X.env)).any (·.1.isNone)) = false := by rfl)
    (hdb : (x == ("__debug__" : Str)) = false := by decide) :
    PE X (.Call (.Name x p) [] kws pos) (fun σ H Q => tk σ H fun zs H1 => zs.length = ks.length ∧ sp (g zs) H1 Q E) := by
  obtain ⟨fd, F, hm, kp, b, st', D'⟩ := C.ex
  obtain ⟨fd2, D2, _⟩ := D
  have ef : fd2 = fd := fnP_inj D2 D'
  subst ef
  refine ⟨fun pins s σ H Q I h => wpAny_Call_Name_kw (ld_glob I hg hm ?_ hdb)⟩
  refine PySem.W.callWith_KW0 (h₀ := X.base) I.ok.mod.kin kp hall
    (thn (hkw.run pos pins s σ H _ I h) fun ws s2 ⟨zs, H2, I2, rz, hl, q⟩ => ⟨I2.kIn, ?_⟩) hpl
  rw [hks]
  have W := kb fd2 D2
  refine wpAny_call (codeAny_mono (F.run X.A X.stack s2 H2 ⟨[], ks.zip ws⟩ (g ws) (g zs) Q E hr I2.env0
    (W.to s2 ws (rz.length.symm.trans hl)) (W.rel rz) q) fun r s' hq => ?_)
  cases r with
  | error e => exact hx pins σ H2 s2 e s' I2 hq
  | ok fl =>
    cases fl with
    | ret u => exact I2.after hq
    | next => exact hq.elim
    | brk => exact hq.elim
    | cont => exact hq.elim
/-- a constant of the module, an int -/
theorem pe_gInt {i : Int} (hg : Gl X x) (h : ∃ t, X.mg x = some (.int i t))
    (hd : (x == ("__debug__" : Str)) = false := by decide) : PE X (.Name x pos) (tC (.int i)) := by
  obtain ⟨t, h⟩ := h
  exact pe_glob hg h ⟨t, rfl⟩ hd
end
/-- an object of the module's top by its name -/
theorem pe_gRef {X : Cx} {x : Str} {a : Addr} {pos : Pos} (hg : Gl X x) (h : X.mg x = some (.ref a)) (hd : (x == ("__debug__" : Str)) = false := by decide) : PE X (.Name x pos) (tC (.ref a)) :=
  pe_glob hg h rfl hd
/-- KwOk for one keyword, no defaults -/
theorem kw1 {K : PySem.W.Frag} {x a : Str} {st : Stmt} {f : Addr} {fd : FuncData}
    (h : ∀ (kV doc pm : Value) (an : Option Addr) (cdv ct u : Value),
      bindArgs (PySem.W.fnOf x x (defArgs st) (defBody st) (defScope st) .none kV doc pm an cdv ct) ⟨[], [(a, u)]⟩ = pure [(a, u)])
    (F : FnP K x st f fd) : KwOk fd [a] [a] (fun zs => zs) := by
  obtain ⟨oc, od, dV, kV, doc, pm, an, cdv, ct, osl, rfl, lk, hcd, hd, _⟩ := F.ex
  rcases hd with ⟨_, e⟩ | ⟨e, _⟩
  · subst e
    refine ⟨fun s ws hl => ?_, fun r => r⟩
    match ws, hl with
    | [u], _ => exact .of_eq (h kV doc pm an cdv ct u)
  · exact absurd rfl e
theorem kw2 {K : PySem.W.Frag} {x a b : Str} {st : Stmt} {f : Addr} {fd : FuncData}
    (h : ∀ (kV doc pm : Value) (an : Option Addr) (cdv ct u v : Value),
      bindArgs (PySem.W.fnOf x x (defArgs st) (defBody st) (defScope st) .none kV doc pm an cdv ct) ⟨[], [(b, u), (a, v)]⟩ = pure [(a, v), (b, u)])
    (F : FnP K x st f fd) : KwOk fd [a, b] [b, a] (fun zs => zs.reverse) := by
  obtain ⟨oc, od, dV, kV, doc, pm, an, cdv, ct, osl, rfl, lk, hcd, hd, _⟩ := F.ex
  rcases hd with ⟨_, e⟩ | ⟨e, _⟩
  · subst e
    refine ⟨fun s ws hl => ?_, fun r => ?_⟩
    · match ws, hl with
      | [u, v], _ => exact .of_eq (h kV doc pm an cdv ct u v)
    · induction r with
      | nil => exact .nil
      | cons p q ih =>
        rw [List.reverse_cons, List.reverse_cons]
        exact Vals.append ih (.cons p .nil)
  · exact absurd rfl e
/-! ## the built-ins' names -/
theorem bb_isinstance : bootBuiltins "isinstance" = some (.builtin "isinstance") := by decide +kernel
theorem bb_len : bootBuiltins "len" = some (.builtin "len") := by decide +kernel
theorem bb_abs : bootBuiltins "abs" = some (.builtin "abs") := by decide +kernel
theorem bb_max : bootBuiltins "max" = some (.builtin "max") := by decide +kernel
theorem bb_min : bootBuiltins "min" = some (.builtin "min") := by decide +kernel
theorem bb_divmod : bootBuiltins "divmod" = some (.builtin "divmod") := by decide +kernel
theorem bb_repr : bootBuiltins "repr" = some (.builtin "repr") := by decide +kernel
theorem bb_sum : bootBuiltins "sum" = some (.builtin "sum") := by decide +kernel
theorem bb_all : bootBuiltins "all" = some (.builtin "all") := by decide +kernel
theorem bb_any : bootBuiltins "any" = some (.builtin "any") := by decide +kernel
theorem bb_sorted : bootBuiltins "sorted" = some (.builtin "sorted") := by decide +kernel
theorem bt_int : bootBuiltins "int" = some (.type "int") := by decide +kernel
theorem bt_bool : bootBuiltins "bool" = some (.type "bool") := by decide +kernel
theorem bt_list : bootBuiltins "list" = some (.type "list") := by decide +kernel
theorem bt_tuple : bootBuiltins "tuple" = some (.type "tuple") := by decide +kernel
theorem bt_str : bootBuiltins "str" = some (.type "str") := by decide +kernel
theorem bt_dict : bootBuiltins "dict" = some (.type "dict") := by decide +kernel
/-! ## heaps -/
theorem same_upd {H : Hp} {p : Addr} {o : HO} (h : H p = none) : Same H (upd H p o) := fun b x e => by
  rw [upd_ne (ne_of_none e h)]
  exact e
theorem same_put {H H' : Hp} {p : Addr} {o : HO} (s : Same H H') (n : H p = none) : Same H (upd H' p o) := fun b x e => by
  rw [upd_ne (ne_of_none e n)]
  exact s b x e
theorem same_new {H H' : Hp} {p : Addr} {o : HO} (s : Same H H') (n : H' p = none) : Same H (upd H' p o) := s.trans (same_upd n)
theorem same_tup {K : PySem.W.Frag} {H H' : Hp} {a : Addr} {xs : List V} (e : Same H H') (h : SqT K H a xs) : SqT K H' a xs := by
  rcases h with (h | ⟨o, h⟩) | h
  · exact .inl (.inl (e _ _ h))
  · exact .inl (.inr ⟨o, e _ _ h⟩)
  · exact .inr h
/-- all but the object at p is as it was -/
def Keep (p : Addr) (H H' : Hp) : Prop := ∀ b o, H b = some o → b ≠ p → H' b = some o
theorem Keep.refl (p : Addr) (H : Hp) : Keep p H H := fun _ _ h _ => h
theorem Keep.trans {p : Addr} {H H1 H2 : Hp} (a : Keep p H H1) (b : Keep p H1 H2) : Keep p H H2 := fun c o h n => b c o (a c o h n) n
theorem same_keep {p : Addr} {H H' : Hp} (h : Same H H') : Keep p H H' := fun b o e _ => h b o e
theorem keep_upd {p : Addr} {H : Hp} {o : HO} : Keep p H (upd H p o) := fun b x e n => by
  rw [upd_ne n]
  exact e
theorem Keep.seq {K : PySem.W.Frag} {p : Addr} {H H' : Hp} {a : Addr} {xs : List V} (e : Keep p H H') (h : SqL K H a xs) (n : a ≠ p) : SqL K H' a xs := by
  rcases h with (h | ⟨o, h⟩) | h
  · exact .inl (.inl (e _ _ h n))
  · exact .inl (.inr ⟨o, e _ _ h n⟩)
  · exact .inr h
/-- is it an integer (and no bool)? -/
def IsI (K : PySem.W.Frag) (H : Hp) (v : V) (b : Bool) : Prop := ∃ t b1 b2, TyX K H v t ∧
  PySem.W.kitOne K t (.type "int") = some b1 ∧ PySem.W.kitOne K t (.type "bool") = some b2 ∧ b = (b1 && !b2)
theorem isI_int {K : PySem.W.Frag} {H : Hp} (i : Int) : IsI K H (.int i) true :=
  ⟨_, true, false, .base (.int i), kit_ty (by decide +kernel), kit_ty (by decide +kernel), rfl⟩
theorem isI_non {K : PySem.W.Frag} {H : Hp} : IsI K H .non false :=
  ⟨_, false, false, .base .non, kit_ty (by decide +kernel), kit_ty (by decide +kernel), rfl⟩
theorem isI_bl {K : PySem.W.Frag} {H : Hp} (b : Bool) : IsI K H (.bl b) false :=
  ⟨_, true, true, .base (.bl b), kit_ty (by decide +kernel), kit_ty (by decide +kernel), rfl⟩
theorem isI_str {K : PySem.W.Frag} {H : Hp} (x : Str) : IsI K H (.str x) false :=
  ⟨_, false, false, .base (.str x), kit_ty (by decide +kernel), kit_ty (by decide +kernel), rfl⟩
theorem isI_lst {K : PySem.W.Frag} {H : Hp} {a : Addr} {xs : List V} (h : H a = some (.lst xs)) : IsI K H (.ref a) false :=
  ⟨_, false, false, .base (.lst h), kit_ty (by decide +kernel), kit_ty (by decide +kernel), rfl⟩
theorem isI_tup {K : PySem.W.Frag} {H : Hp} {a : Addr} {xs : List V} (h : H a = some (.tup xs)) : IsI K H (.ref a) false :=
  ⟨_, false, false, .base (.tup h), kit_ty (by decide +kernel), kit_ty (by decide +kernel), rfl⟩
theorem isI_dK {K : PySem.W.Frag} {H : Hp} {a : Addr} {xs : List (Key × V)} (h : H a = some (.dK xs)) : IsI K H (.ref a) false :=
  ⟨_, false, false, .base (.dK h), kit_ty (by decide +kernel), kit_ty (by decide +kernel), rfl⟩
end Bx

set_option maxHeartbeats 4000000
namespace Bx
open PySem PySem.Spec PyProof.Rows L2
/-! ## operators on numbers that are not negative -/
abbrev rN (C : Nat → Nat → Prop) (g : Nat → Nat → Nat) : V → V → Hp → VK → Prop :=
  fun x y H Q => ∃ a b : Nat, x = .int a ∧ y = .int b ∧ C a b ∧ Q (.int (g a b : Nat)) H
abbrev rN0 (g : Nat → Nat → Nat) : V → V → Hp → VK → Prop :=
  fun x y H Q => ∃ a b : Nat, x = .int a ∧ y = .int b ∧ Q (.int (g a b : Nat)) H
section
variable {X : Cx}
theorem op_bxor : OpR X (binaryOp .BitXor) (rN0 (· ^^^ ·)) := by
  intro pins s σ H x y v u Q I r1 r2 h
  obtain ⟨a, b, rfl, rfl, q⟩ := h
  refine op_xor pins s σ H _ _ v u Q I r1 r2 ⟨_, _, rfl, rfl, ?_⟩
  show Q (.int (Builtin.bitXor a b)) H
  rw [Bits.bitXor_pp (Int.natCast_nonneg a) (Int.natCast_nonneg b), Int.toNat_natCast, Int.toNat_natCast]
  exact q
theorem op_band : OpR X (binaryOp .BitAnd) (rN0 (· &&& ·)) := by
  intro pins s σ H x y v u Q I r1 r2 h
  obtain ⟨a, b, rfl, rfl, q⟩ := h
  refine op_and pins s σ H _ _ v u Q I r1 r2 ⟨_, _, rfl, rfl, ?_⟩
  show Q (.int (Builtin.bitAnd a b)) H
  rw [bitAnd_pp (Int.natCast_nonneg a) (Int.natCast_nonneg b), Int.toNat_natCast, Int.toNat_natCast]
  exact q
theorem op_bor : OpR X (binaryOp .BitOr) (rN0 (· ||| ·)) := by
  intro pins s σ H x y v u Q I r1 r2 h
  obtain ⟨a, b, rfl, rfl, q⟩ := h
  refine op_or pins s σ H _ _ v u Q I r1 r2 ⟨_, _, rfl, rfl, ?_⟩
  show Q (.int (Builtin.bitOr a b)) H
  rw [Bits.bitOr_pp (Int.natCast_nonneg a) (Int.natCast_nonneg b), Int.toNat_natCast, Int.toNat_natCast]
  exact q
theorem shr_cast (a k : Nat) : ((a : Int) / 2 ^ k) = ((a >>> k : Nat) : Int) := by
  rw [Nat.shiftRight_eq_div_pow, Int.natCast_ediv, Int.natCast_pow]
  rfl
theorem op_bshr : OpR X (binaryOp .RShift) (rN0 (· >>> ·)) := by
  intro pins s σ H x y v u Q I r1 r2 h
  obtain ⟨a, b, rfl, rfl, q⟩ := h
  refine op_shr pins s σ H _ _ v u Q I r1 r2 ⟨_, _, rfl, rfl, Int.natCast_nonneg b, ?_⟩
  show Q (.int ((a : Int) / 2 ^ (b : Int).toNat)) H
  rw [Int.toNat_natCast, shr_cast]
  exact q
theorem shl_cast (a k : Nat) : ((a : Int) * 2 ^ k) = ((a <<< k : Nat) : Int) := by
  rw [Nat.shiftLeft_eq, Int.natCast_mul, Int.natCast_pow]
  rfl
/-- 1 << k, and any small number -/
theorem op_bshl : OpR X (binaryOp .LShift) (rN (fun a k => k ≤ 1000000 ∧ a < 2 ^ 64) (· <<< ·)) := by
  intro pins s σ H x y v u Q I r1 r2 h
  obtain ⟨a, b, rfl, rfl, ⟨c1, c2⟩, q⟩ := h
  refine op_shl pins s σ H _ _ v u Q I r1 r2 ⟨_, _, rfl, rfl, ⟨Int.natCast_nonneg b, by omega, by rw [Int.natAbs_natCast]; exact c2⟩, ?_⟩
  show Q (.int ((a : Int) * 2 ^ (b : Int).toNat)) H
  rw [Int.toNat_natCast, shl_cast]
  exact q
end
/-! ## bits -/
/-- the sum, modulo 2, of the bits below m -/
def xorB (n : Nat) : Nat → Bool
  | 0 => false
  | m + 1 => xor (xorB n m) (n.testBit m)
theorem xorB_fold (n : Nat) (m : Nat) : ∀ j, j ≤ m → xorB (n ^^^ n >>> m) j = xor (xorB n j) (xor (xorB n (m + j)) (xorB n m))
  | 0, _ => by simp [xorB]
  | j + 1, h => by
    have ih := xorB_fold n m j (by omega)
    show xor (xorB (n ^^^ n >>> m) j) ((n ^^^ n >>> m).testBit j) = xor (xor (xorB n j) (n.testBit j)) (xor (xor (xorB n (m + j)) (n.testBit (m + j))) (xorB n m))
    rw [ih, Nat.testBit_xor, Nat.testBit_shiftRight]
    cases xorB n j <;> cases xorB n (m + j) <;> cases xorB n m <;> cases n.testBit j <;> cases n.testBit (m + j) <;> rfl
theorem xorB_half (n m : Nat) : xorB (n ^^^ n >>> m) m = xorB n (m + m) := by
  rw [xorB_fold n m m (Nat.le_refl m)]
  cases xorB n m <;> cases xorB n (m + m) <;> rfl
/-- what parity_of makes -/
def parN (n : Nat) : Nat := (xorB n 256).toNat
def foldH (n : Nat) : List Nat → Nat
  | [] => n
  | h :: r => foldH (n ^^^ n >>> h) r
theorem par_end (n : Nat) : n &&& 1 = (xorB n 1).toNat := by
  show n &&& 1 = (xor false (n.testBit 0)).toNat
  rw [Bool.false_xor, Nat.testBit_zero, Nat.and_one_is_mod]
  rcases Nat.mod_two_eq_zero_or_one n with h | h <;> rw [h] <;> rfl
theorem par_fold (n : Nat) : foldH n [128, 64, 32, 16, 8, 4, 2, 1] &&& 1 = parN n := by
  rw [par_end]
  unfold parN
  simp only [foldH]
  rw [xorB_half _ 1, xorB_half _ 2, xorB_half _ 4, xorB_half _ 8, xorB_half _ 16, xorB_half _ 32, xorB_half _ 64, xorB_half _ 128]
theorem parN_lt (n : Nat) : parN n < 2 := by
  unfold parN
  cases xorB n 256 <;> decide
theorem foldH_take (n : Nat) (hs : List Nat) (i : Nat) (h : Nat) (e : hs[i]? = some h) : foldH n (hs.take (i + 1)) = foldH n (hs.take i) ^^^ foldH n (hs.take i) >>> h := by
  induction hs generalizing n i with
  | nil => cases e
  | cons x r ih =>
    cases i with
    | zero =>
      obtain rfl : x = h := Option.some.inj e
      rfl
    | succ i =>
      show foldH (n ^^^ n >>> x) (r.take (i + 1)) = _
      rw [ih _ i e]
      rfl
/-- what leading_of makes: (rest, found) -/
def leadStep (p : Nat × Nat) (h : Nat) : Nat × Nat := if p.1 >>> h > 0 then (p.1 >>> h, p.2 + h) else p
theorem log2_shr (n h : Nat) (p : n >>> h > 0) : n.log2 = (n >>> h).log2 + h := by
  have hn : n ≠ 0 := by
    intro e
    rw [e, Nat.zero_shiftRight] at p
    omega
  have h1 : n >>> h ≠ 0 := by omega
  rw [Nat.log2_eq_iff hn]
  rw [Nat.shiftRight_eq_div_pow] at h1 p ⊢
  have a := Nat.log2_self_le h1
  have b := Nat.lt_log2_self (n := n / 2 ^ h)
  constructor
  · rw [Nat.pow_add]
    exact Nat.le_trans (Nat.mul_le_mul_right _ a) (Nat.div_mul_le_self n (2 ^ h))
  · have c : n / 2 ^ h + 1 ≤ 2 ^ ((n / 2 ^ h).log2 + 1) := b
    have d : n < (n / 2 ^ h + 1) * 2 ^ h := by
      have := Nat.lt_succ_self n
      exact Nat.lt_mul_of_div_lt (Nat.lt_succ_self _) (Nat.two_pow_pos h)
    refine Nat.lt_of_lt_of_le d ?_
    refine Nat.le_trans (Nat.mul_le_mul_right _ c) ?_
    rw [← Nat.pow_add]
    exact Nat.pow_le_pow_right (by decide) (by omega)
theorem leadStep_inv (n : Nat) (p : Nat × Nat) (h : Nat) (hp : 0 < p.1) (hb : p.1 < 2 ^ (h + h)) (e : n.log2 = p.2 + p.1.log2) :
    0 < (leadStep p h).1 ∧ (leadStep p h).1 < 2 ^ h ∧ n.log2 = (leadStep p h).2 + (leadStep p h).1.log2 := by
  unfold leadStep
  split
  · rename_i q
    refine ⟨q, ?_, ?_⟩
    · show p.1 >>> h < 2 ^ h
      rw [Nat.shiftRight_eq_div_pow]
      rw [Nat.pow_add] at hb
      exact Nat.div_lt_of_lt_mul hb
    · show n.log2 = p.2 + h + (p.1 >>> h).log2
      rw [e, log2_shr p.1 h q]
      omega
  · rename_i q
    refine ⟨hp, ?_, e⟩
    rw [Nat.shiftRight_eq_div_pow] at q
    have : p.1 / 2 ^ h = 0 := Nat.eq_zero_of_not_pos q
    exact (Nat.div_eq_zero_iff_lt (Nat.two_pow_pos h)).mp this
theorem lead_fold (n : Nat) (h0 : 0 < n) (hb : n < 2 ^ 256) : (([128, 64, 32, 16, 8, 4, 2, 1] : List Nat).foldl leadStep (n, 0)).2 = n.log2 := by
  simp only [List.foldl]
  have s1 := leadStep_inv n (n, 0) 128 h0 hb (by show n.log2 = 0 + n.log2; omega)
  have s2 := leadStep_inv n _ 64 s1.1 s1.2.1 s1.2.2
  have s3 := leadStep_inv n _ 32 s2.1 s2.2.1 s2.2.2
  have s4 := leadStep_inv n _ 16 s3.1 s3.2.1 s3.2.2
  have s5 := leadStep_inv n _ 8 s4.1 s4.2.1 s4.2.2
  have s6 := leadStep_inv n _ 4 s5.1 s5.2.1 s5.2.2
  have s7 := leadStep_inv n _ 2 s6.1 s6.2.1 s6.2.2
  have s8 := leadStep_inv n _ 1 s7.1 s7.2.1 s7.2.2
  obtain ⟨p, q, r⟩ := s8
  have one : (leadStep (leadStep (leadStep (leadStep (leadStep (leadStep (leadStep (leadStep (n, 0) 128) 64) 32) 16) 8) 4) 2) 1).1 = 1 := by
    have q2 : (leadStep (leadStep (leadStep (leadStep (leadStep (leadStep (leadStep (leadStep (n, 0) 128) 64) 32) 16) 8) 4) 2) 1).1 < 2 := q
    omega
  rw [one] at r
  have : Nat.log2 1 = 0 := by decide
  omega
/-- the positions of the ones -/
def bitsN (n : Nat) : List Nat := (List.range (n.log2 + 1)).filter n.testBit
theorem testBit_log2 {n k : Nat} (h : n.testBit k = true) : k < n.log2 + 1 := by
  have h1 : 2 ^ k ≤ n := Nat.ge_two_pow_of_testBit h
  have hn : n ≠ 0 := by
    intro e
    rw [e, Nat.zero_testBit] at h
    cases h
  have h2 := (Nat.le_log2 hn).mpr h1
  omega
theorem filter_range_more (p : Nat → Bool) (a : Nat) : ∀ b, (∀ k, p k = true → k < a) → (List.range (a + b)).filter p = (List.range a).filter p
  | 0, _ => rfl
  | b + 1, h => by
    rw [show a + (b + 1) = (a + b) + 1 from rfl, List.range_succ, List.filter_append, filter_range_more p a b h]
    have : p (a + b) = false := by
      cases e : p (a + b) with
      | false => rfl
      | true =>
        have := h _ e
        omega
    simp [this]
theorem filter_range_eq {p : Nat → Bool} {a b : Nat} (ha : ∀ k, p k = true → k < a) (hb : ∀ k, p k = true → k < b) : (List.range a).filter p = (List.range b).filter p := by
  rcases Nat.le_total a b with h | h
  · obtain ⟨c, rfl⟩ := Nat.exists_eq_add_of_le h
    exact (filter_range_more p a c ha).symm
  · obtain ⟨c, rfl⟩ := Nat.exists_eq_add_of_le h
    exact filter_range_more p b c hb
theorem bitsN_of {n m : Nat} (h : ∀ k, n.testBit k = true → k < m) : (List.range m).filter n.testBit = bitsN n :=
  filter_range_eq h fun _ e => testBit_log2 e
theorem mem_bitsN {n k : Nat} : k ∈ bitsN n ↔ n.testBit k = true := by
  unfold bitsN
  rw [List.mem_filter, List.mem_range]
  exact ⟨fun h => h.2, fun h => ⟨testBit_log2 h, h⟩⟩
theorem shr_one (n k : Nat) : n >>> k &&& 1 = (n.testBit k).toNat := by
  rw [Nat.testBit_eq_decide_div_mod_eq, Nat.shiftRight_eq_div_pow, Nat.and_one_is_mod]
  rcases Nat.mod_two_eq_zero_or_one (n / 2 ^ k) with h | h <;> rw [h] <;> rfl
theorem one_shl_testBit (k j : Nat) : (1 <<< k).testBit j = decide (k = j) := by
  rw [Nat.one_shiftLeft, Nat.testBit_two_pow]
/-- the word with ones at some positions -/
def orAll (ks : List Nat) : Nat := ks.foldl (fun n k => n ||| 1 <<< k) 0
theorem orAll_snoc (ks : List Nat) (k : Nat) : orAll (ks ++ [k]) = orAll ks ||| 1 <<< k := by
  unfold orAll
  rw [List.foldl_append]
  rfl
theorem orAll_fold (ks : List Nat) (m j : Nat) : (ks.foldl (fun n k => n ||| 1 <<< k) m).testBit j = (m.testBit j || decide (j ∈ ks)) := by
  induction ks generalizing m with
  | nil => simp
  | cons k r ih =>
    rw [List.foldl_cons, ih, Nat.testBit_or, one_shl_testBit]
    by_cases e : k = j
    · subst e
      simp
    · have e2 : ¬ j = k := fun z => e z.symm
      simp [e, e2]
theorem orAll_testBit (ks : List Nat) (j : Nat) : (orAll ks).testBit j = decide (j ∈ ks) := by
  unfold orAll
  rw [orAll_fold, Nat.zero_testBit, Bool.false_or]
/-! ## bits in a list -/
/-- the number whose bits these are, the lowest first -/
def numB : List Nat → Nat
  | [] => 0
  | b :: r => b + 2 * numB r
theorem numB_testBit : ∀ (fs : List Nat), (∀ b ∈ fs, b < 2) → ∀ k, (numB fs).testBit k = decide (fs[k]? = some 1)
  | [], _, k => by simp [numB]
  | b :: r, h, k => by
    have hb : b < 2 := h b (List.mem_cons_self ..)
    have hr : ∀ b ∈ r, b < 2 := fun c hc => h c (List.mem_cons_of_mem _ hc)
    have ih := numB_testBit r hr
    cases k with
    | zero =>
      show (b + 2 * numB r).testBit 0 = _
      rw [Nat.testBit_zero]
      have : (b + 2 * numB r) % 2 = b := by omega
      rw [this]
      simp
    | succ k =>
      show (b + 2 * numB r).testBit (k + 1) = _
      rw [Nat.testBit_succ]
      have : (b + 2 * numB r) / 2 = numB r := by omega
      rw [this, ih k]
      simp
theorem numB_lt : ∀ (fs : List Nat), (∀ b ∈ fs, b < 2) → numB fs < 2 ^ fs.length
  | [], _ => by decide
  | b :: r, h => by
    have hb : b < 2 := h b (List.mem_cons_self ..)
    have ih := numB_lt r fun c hc => h c (List.mem_cons_of_mem _ hc)
    show b + 2 * numB r < 2 ^ (r.length + 1)
    rw [Nat.pow_succ]
    omega
theorem xorB_num : ∀ (fs : List Nat), (∀ b ∈ fs, b < 2) → ∀ m, (xorB (numB fs) m).toNat = (fs.take m).sum % 2 := by
  intro fs h m
  induction m with
  | zero => simp [xorB]
  | succ m ih =>
    show (xor (xorB (numB fs) m) ((numB fs).testBit m)).toNat = _
    rw [numB_testBit fs h m, List.take_add_one, List.sum_append]
    have key : (xor (xorB (numB fs) m) (decide (fs[m]? = some 1))).toNat = ((xorB (numB fs) m).toNat + (decide (fs[m]? = some 1)).toNat) % 2 := by
      cases xorB (numB fs) m <;> cases decide (fs[m]? = some 1) <;> rfl
    rw [key, ih]
    cases e : fs[m]? with
    | none => simp
    | some b =>
      have hb : b < 2 := h b (List.mem_of_getElem? e)
      have : b = 0 ∨ b = 1 := by omega
      rcases this with rfl | rfl
      · simp
      · simp [Nat.add_mod]
theorem parN_num (fs : List Nat) (h : ∀ b ∈ fs, b < 2) (hl : fs.length ≤ 256) : parN (numB fs) = fs.sum % 2 := by
  unfold parN
  rw [xorB_num fs h, List.take_of_length_le hl]
end Bx

set_option maxHeartbeats 4000000
namespace Bx
open PySem PySem.Spec PyProof.Rows L2
open AutoSeq1 (wpAny_loadPart')
/-! ## enumerate(tuple) -/
theorem draws_tuple {prog : Program} {w : World} {A : Around} (hh : A.handled = none) {it l : Addr} (ne : l ≠ it) (items : Array Value) :
    Draws prog w A it [it, l] items.size (fun i v => items[i]? = some v) (fun i h => h.IsTupleIter it l i ∧ h.IsTuple l items) where
  live := fun _ _ ⟨⟨o, ho, _⟩, _⟩ => ⟨o, ho⟩
  frame := fun _ _ _ ⟨a, o, ho, r⟩ hk => ⟨a.at fun o e => hk it (List.mem_cons_self ..) o e, o, hk l (by simp) o ho, r⟩
  item := fun i s Q E hi ⟨a, b⟩ hQ => by
    refine RZ.nextOf_tuple_item a b (x := items[i]) (by simp [hi]) fun h' a' sb => ?_
    obtain ⟨o, ho, r⟩ := b
    exact hQ _ h' s.toks (by simp [hi]) ⟨a', o, sb.extBut l o ne ho, r⟩ sb
  done := fun s Q E ⟨a, b⟩ hE => RZ.nextOf_tuple_end hh a b (by simp) hE
theorem meets_enumT (l : Addr) (items : Array Value) : Meets (Builtin.«enumerate.__new__» ⟨[.type "enumerate", .ref l], []⟩)
    (fun _ R s => s.heap.IsTuple l items ∧ R (.ok (.ret (.ref (RZ.zipTH1 s.heap l).objs.size)))
      { s with heap := (RZ.zipTH1 s.heap l).push { cls := .type "enumerate", data := .fields #[.none, .bool false, .ref s.heap.objs.size, rawInt 0, .none, .none] } }) :=
  .of_wp fun prog w A R s h => by
    obtain ⟨hp, g, d, tk, os⟩ := s
    obtain ⟨hT, h⟩ := h
    obtain ⟨⟨c, dct, dt, sl⟩, hl, hc, n, hd⟩ := id hT
    have ec : c = .type "tuple" := hc
    have ed : dt = .seq items n := hd
    subst ec ed
    have hsub := sub_enumerate
    wp_walk using wpAny_loadPart' hl
    refine wpAny_stack_any fun st => wpAny_pure ?_
    split
    · rename_i c _ _ _ _ _
      cases (c == Value.type "enumerate") <;> (wp_walk using wpAny_loadPart' hl, wpAny_pyIter_tuple hT; exact ⟨_, rfl, h⟩)
    · wp_walk using wpAny_loadPart' hl, wpAny_pyIter_tuple hT
      exact ⟨_, rfl, h⟩
theorem call_enumT {prog : Program} {w : World} {A : Around} {E : Value → Shared → Prop} {s : Shared} {l : Addr} {items : Array Value} {Q : Value → Shared → Prop} (hT : s.heap.IsTuple l items)
    (h : ∀ h', IsEnum h' (s.heap.objs.size + 1) s.heap.objs.size 0 .none → h'.IsTupleIter s.heap.objs.size l 0 →
      (∀ b o, s.heap.get? b = some o → h'.get? b = some o) → Q (.ref (s.heap.objs.size + 1)) { s with heap := h' }) :
    wpAny (model prog w) A (call (.type "enumerate") [.ref l]) Q E s := by
  refine callType_new F.called_enumerate (by decide) (F.typeCall_enumerate_1 _) (F.newCall_enumerate_1 _)
    (fun obj => F.args_object_init_2 obj _) F.entry_enumerate_new (meets_enumT l items) ⟨hT, ?_⟩
  have hz : (RZ.zipTH1 s.heap l).objs.size = s.heap.objs.size + 1 := Heap.size_push ..
  have he : IsEnum ((RZ.zipTH1 s.heap l).push { cls := .type "enumerate", data := .fields #[.none, .bool false, .ref s.heap.objs.size, rawInt 0, .none, .none] })
      (s.heap.objs.size + 1) s.heap.objs.size 0 .none := by
    have e := Heap.get?_push_size (RZ.zipTH1 s.heap l)
      (o := { cls := .type "enumerate", data := .fields #[.none, .bool false, .ref s.heap.objs.size, rawInt 0, .none, .none] }) rfl
    rw [hz] at e
    exact e
  show _ ∧ _
  rw [hz]
  exact ⟨⟨_, he, rfl⟩, h _ he ⟨_, Heap.get?_push_of_some _ (Heap.get?_push_size _ rfl), rfl, rfl⟩ fun b o e => Heap.get?_push_of_some _ (Heap.get?_push_of_some _ e)⟩
/-- the tuple at a, each item in a new pair with its place -/
def IteT (K : PySem.W.Frag) (a : Addr) : It where
  go := fun i H => ∃ (xs : List V) (x : V), SqT K H a xs ∧ xs[i]? = some x
  yld := fun i H v H' => ∃ T x, v = .ref T ∧ H T = none ∧ H' = upd H T (.tup [.int (i : Nat), x]) ∧ ∀ xs, SqT K H a xs → xs[i]? = some x
  stop := fun i H => ∃ xs : List V, SqT K H a xs ∧ xs.length = i
theorem turn_enumT {P : Program} {w : World} {K : PySem.W.Frag} {elts : List Expr} {kk : Nat} {tpos : Pos} (a e it : Addr) :
    Turn P w K (.Tuple elts kk tpos) (IteT K a) [e, it] e
      (fun i h => (∃ old, IsEnum h e it ((i : Nat) : Int) old) ∧ h.IsTupleIter it a i ∧ e ≠ it ∧ a ≠ it ∧ a ≠ e) where
  mem := List.mem_cons_self ..
  obj := by
    rintro i h ⟨⟨old, he⟩, ⟨o, ho, hc, hd⟩, _⟩ b hb
    rcases List.mem_cons.mp hb with z | hb
    · subst z
      exact ⟨_, he, fun v q => nomatch q⟩
    · rw [List.mem_singleton.mp hb]
      exact ⟨o, ho, fun v q => by rw [hd] at q; cases q⟩
  keep := by
    rintro i h h' ⟨⟨old, he⟩, hi, r⟩ k
    exact ⟨⟨old, k e (by simp) _ he⟩, hi.at fun o q => k it (by simp) o q, r⟩
  item := by
    intro X hP hw hK hc i pins s σ H E I hf st hg
    subst hP hw hK
    obtain ⟨⟨old, he⟩, hit, hne, hai, hae⟩ := st
    obtain ⟨xs, x, hq, hx⟩ := hg
    obtain ⟨its, rv, p, hz⟩ := I.tuple hq
    obtain ⟨u, hu, ru⟩ := rv.get hx
    have hel : e < s.heap.objs.size := Heap.lt_size he
    have hil : it < s.heap.objs.size := by
      obtain ⟨_, q, _⟩ := hit
      exact Heap.lt_size q
    have il : i < its.toArray.size := by
      rw [List.size_toArray]
      exact (List.getElem?_eq_some_iff.mp hu).1
    have D : Draws X.prog X.w X.A.in1 it [it, a] its.toArray.size _ _ := draws_tuple (A := X.A.in1) (I.ok.hd hc) hai its.toArray
    refine wpAny_pyNext_enum_itemD D he ⟨hit, p⟩ il hne (by simp [hne, Ne.symm hae]) fun y h' tk hy ho st' hT hsz hk => ?_
    have ey : y = u := by
      have hy2 : its[i]? = some y := by simpa using hy
      exact Option.some.inj (hy2.symm.trans hu)
    subst ey
    refine ⟨_, rfl, wpAny_letOwnedTupleGo_enum (s := { s with heap := h', toks := tk + 1 }) ho fun h2 he2 sb => ?_⟩
    have hT2 : h2.get? s.heap.objs.size = some { cls := .type "tuple", data := .seq #[.int i tk, y] } := (sb.2 _ (Nat.ne_of_gt hel)).trans hT
    have new : ObjOk X.prog X.w (upd H s.heap.objs.size (.tup [.int (i : Nat), x])) h2 s.heap.objs.size (.tup [.int (i : Nat), x]) :=
      ⟨by show 2 ≤ sizeLine; decide, [.int i tk, y], .cons ⟨_, rfl⟩ (.cons ru .nil), _, hT2, rfl, _, rfl⟩
    have I1 := I.turnedNew (t' := tk + 1) (ch := [e, it]) (fun b ob hb q => (sb.2 b (fun z => hb (by simp [z]))).trans (hk b ob (fun z => hb (by simp [z])) (fun z => hb (by simp [z])) q)) hf (Nat.le_refl _) new
    refine ⟨.ref s.heap.objs.size, _, I1, rfl, ⟨_, x, rfl, I.hok.fresh (Nat.le_refl _), rfl, fun ys hy => by rw [I.tuple_inj hy hq]; exact hx⟩, ⟨⟨y, ?_⟩, st'.1.at fun o q => (sb.2 it (Ne.symm hne)).trans q, hne, hai, hae⟩, fun b hb => ?_⟩
    · rw [show ((i + 1 : Nat) : Int) = (i : Int) + 1 by omega]
      exact he2
    · have lt : b < s.heap.objs.size := by
        rcases List.mem_cons.mp hb with z | hb
        · rw [z]; exact hel
        · rw [List.mem_singleton.mp hb]; exact hil
      rw [upd_ne (Nat.ne_of_lt lt)]
      exact (hf b hb).1
  done := by
    intro X hP hw hK hc i pins s σ H E I hf st hg
    subst hP hw hK
    obtain ⟨⟨old, he⟩, hit, hne, hai, hae⟩ := st
    obtain ⟨xs, hq, hx⟩ := hg
    obtain ⟨its, rv, p, hz⟩ := I.tuple hq
    obtain ⟨f0, f1, f2, f3, f4, f5⟩ := hf it (by simp)
    have el : i = its.toArray.size := by
      rw [List.size_toArray, ← rv.length, hx]
    have D : Draws X.prog X.w X.A.in1 it [it, a] its.toArray.size _ _ := draws_tuple (A := X.A.in1) (I.ok.hd hc) hai its.toArray
    subst el
    refine wpAny_pyNext_enum_endD D he ⟨hit, p⟩ fun h' eb => ⟨rfl, ?_⟩
    exact I.turned (t' := s.toks) (fun b o hb q => eb b o hb q) f0 f1 f3 f4 f5
  self := fun A i s Q E ⟨⟨_, he⟩, _⟩ h => wpAny_pyIter_enum he h
def iEnumT (K : PySem.W.Frag) (ta : TA) : TI := fun σ H R => ta σ H fun vs H1 => ∃ a xs, vs = [.ref a] ∧ SqT K H1 a xs ∧ R (IteT K a) H1
theorem pi_enumT {X : Cx} {e : Expr} {ta : TA} {p pos tpos : Pos} {elts : List Expr} {kk : Nat} (hg : Gl X "enumerate") (hm : X.mg "enumerate" = none)
    (ha : PA X [e] ta) (hs : starEach [e] X.env = [(false, eval e X.env)] := by rfl) :
    PI X (.Tuple elts kk tpos) (.Call (.Name "enumerate" p) [e] [] pos) (iEnumT X.K ta) := by
  refine ⟨fun pins s σ H R I h => Call_ (ld_blt I hg hm boot_enumerate (PyProof.Rows.callWith_type1
    (thn (ha.run pos pins s σ H _ I h) fun us s1 ⟨vs, H1, I1, r1, q1⟩ => ?_) hs rfl))⟩
  obtain ⟨a, xs, ex, hq, q⟩ := q1
  subst ex
  obtain ⟨u, rfl, r⟩ := vals1 r1
  obtain rfl : u = Value.ref a := r
  obtain ⟨its, rv, pt, hz⟩ := I1.tuple hq
  have hal : a < s1.heap.objs.size := pt.lt
  refine call_enumT pt fun h' he hit hk => wpAny_pyIter_enum he ?_
  have I2 := I1.kept (t' := s1.toks) hk
  refine ⟨s1.heap.objs.size + 1, [s1.heap.objs.size + 1, s1.heap.objs.size], _, _, H1, rfl, I2,
    turn_enumT a (s1.heap.objs.size + 1) s1.heap.objs.size, ⟨⟨.none, he⟩, hit, Nat.succ_ne_self _, Nat.ne_of_lt hal, Nat.ne_of_lt (Nat.lt_succ_of_lt hal)⟩, fun b hb => ?_, q⟩
  have hle : s1.heap.objs.size ≤ b := by
    rcases List.mem_cons.mp hb with z | hb
    · rw [z]; exact Nat.le_succ _
    · rw [List.mem_singleton.mp hb]; exact Nat.le_refl _
  exact I1.fpOk hle (I1.hok.fresh hle)
theorem walk_enumT {K : PySem.W.Frag} {a : Addr} {xs : List V} : Walk (IteT K a) xs.length (fun H => SqT K H a xs) (YPair (fun i => some (.int (i : Nat))) (fun i => xs[i]?)) := by
  refine ⟨fun i _ hi q => ⟨xs, xs[i], q, by simp [hi]⟩, fun _ q => ⟨xs, q, rfl⟩, fun i H v H' _ q y => ?_⟩
  obtain ⟨T, x, h1, h2, h3, h4⟩ := y
  exact ⟨T, .int (i : Nat), x, h1, h2, h3, rfl, h4 xs q⟩
end Bx

set_option maxHeartbeats 4000000
namespace Bx
open PySem PySem.Spec PyProof.Rows L2
/-! ## flat values as data -/
def dOf : V → PyData
  | .bl b => .bool b
  | .int i => .int i
  | .str x => .str x
  | _ => .none
/-- None, a bool, an int of a bounded size -/
def okV : V → Prop
  | .non => True
  | .bl _ => True
  | .int i => i.natAbs.log2 < 1920
  | _ => False
theorem okV_nat {n : Nat} (h : n < 2 ^ 200) : okV (.int n) := by
  show (n : Int).natAbs.log2 < 1920
  rw [Int.natAbs_natCast]
  rcases Nat.eq_zero_or_pos n with z | z
  · subst z
    decide
  · exact (Nat.log2_lt (by omega)).mpr (Nat.lt_of_lt_of_le h (Nat.pow_le_pow_right (by decide) (by decide)))
section
variable {K : PySem.W.Frag} {H : Hp}
theorem dp_ok : ∀ {v : V}, okV v → Dp K H v (dOf v)
  | .non, _ => .non
  | .bl b, _ => .bl b
  | .int i, _ => .int i
theorem dpAll_ok : ∀ {xs : List V}, (∀ v ∈ xs, okV v) → DpAll K H xs (xs.map dOf)
  | [], _ => .nil
  | x :: r, h => .cons (dp_ok (h x (List.mem_cons_self ..))) (dpAll_ok fun v hv => h v (List.mem_cons_of_mem _ hv))
theorem show_ok : ∀ {v : V}, okV v → (dOf v).showable = true ∧ (dOf v).hasDict = false ∧ (dOf v).depth = 0 ∧ (dOf v).shown.length ≤ 1921
  | .non, _ => ⟨rfl, rfl, rfl, by decide +kernel⟩
  | .bl true, _ => ⟨rfl, rfl, rfl, by decide +kernel⟩
  | .bl false, _ => ⟨rfl, rfl, rfl, by decide +kernel⟩
  | .int i, h => ⟨decide_eq_true h, rfl, rfl, int_text_len_1921 h⟩
theorem showAll_ok : ∀ {xs : List V}, (∀ v ∈ xs, okV v) → PyData.showableAll (xs.map dOf) = true ∧ PyData.hasDictAll (xs.map dOf) = false ∧ PyData.depthAll (xs.map dOf) = 0 ∧ ((PyData.shownAll (xs.map dOf)).map (·.length)).sum ≤ 1921 * xs.length ∧ (PyData.shownAll (xs.map dOf)).length = xs.length
  | [], _ => ⟨rfl, rfl, rfl, Nat.le_refl _, rfl⟩
  | x :: r, h => by
    obtain ⟨a1, a2, a3, a4⟩ := show_ok (h x (List.mem_cons_self ..))
    obtain ⟨b1, b2, b3, b4, b5⟩ := showAll_ok (xs := r) fun v hv => h v (List.mem_cons_of_mem _ hv)
    refine ⟨?_, ?_, ?_, ?_, ?_⟩
    · show ((dOf x).showable && PyData.showableAll (r.map dOf)) = true
      rw [a1, b1]
      rfl
    · show ((dOf x).hasDict || PyData.hasDictAll (r.map dOf)) = false
      rw [a2, b2]
      rfl
    · show max (dOf x).depth (PyData.depthAll (r.map dOf)) = 0
      rw [a3, b3]
      rfl
    · show ((dOf x).shown.length :: (PyData.shownAll (r.map dOf)).map (·.length)).sum ≤ 1921 * (r.length + 1)
      rw [List.sum_cons]
      omega
    · show (PyData.shownAll (r.map dOf)).length + 1 = r.length + 1
      rw [b5]
end
theorem tyof_same {K : PySem.W.Frag} {H H' : Hp} {v : V} {t : Value} (s : Same H H') (h : TyOf K H v t) : TyOf K H' v t := by
  cases h with
  | non => exact .non
  | bl x => exact .bl x
  | int i => exact .int i
  | str x => exact .str x
  | flt x => exact .flt x
  | lst e => exact .lst (s _ _ e)
  | frz e => exact .frz (s _ _ e)
  | tup e => exact .tup (s _ _ e)
  | dK e => exact .dK (s _ _ e)
  | dT e => exact .dT (s _ _ e)
  | ins e cl ha hn htk hm => exact .ins (s _ _ e) cl ha hn htk hm
/-- repr of a list of such values -/
def reprL (xs : List V) : Str := (PyData.list (xs.map dOf)).shown
def reprV (v : V) : Str := (dOf v).shown
section
variable {X : Cx}
theorem call_reprL (gd : X.A.guards = some []) (hu : X.A.units + 64 < cLine) :
    CallR X (.builtin "repr") (fun vs H Q => ∃ a xs, vs = [.ref a] ∧ SqL X.K H a xs ∧ (∀ v ∈ xs, okV v) ∧ xs.length ≤ 1000 ∧ Q (.str (reprL xs)) H) := by
  intro pins s σ H vs us Q I r h
  obtain ⟨a, xs, rfl, hS, ok, hl, q⟩ := h
  obtain ⟨b1, b2, b3, b4, b5⟩ := showAll_ok ok
  refine call_repr gd hu pins s σ H _ us Q I r ⟨.ref a, .list (xs.map dOf), rfl, .lst hS (dpAll_ok ok), b1, b2, ?_, ?_, q⟩
  · show PyData.depthAll (xs.map dOf) + 1 ≤ 50
    omega
  · have := listText_len_le (PyData.shownAll (xs.map dOf))
    rw [b5] at this
    have e : sizeLine = 16777216 := by decide
    show (listText (PyData.shownAll (xs.map dOf))).length ≤ sizeLine
    omega
theorem call_reprV (gd : X.A.guards = some []) (hu : X.A.units + 64 < cLine) :
    CallR X (.builtin "repr") (fun vs H Q => ∃ v, vs = [v] ∧ okV v ∧ Q (.str (reprV v)) H) := by
  intro pins s σ H vs us Q I r h
  obtain ⟨v, rfl, ok, q⟩ := h
  obtain ⟨a1, a2, a3, a4⟩ := show_ok ok
  refine call_repr gd hu pins s σ H _ us Q I r ⟨v, _, rfl, dp_ok ok, a1, a2, by omega, Nat.le_trans a4 (by decide), q⟩
theorem canLay_ok : ∀ {xs : List V}, (∀ v ∈ xs, okV v) → PyData.canLayAll0 (xs.map dOf) = true
  | [], _ => rfl
  | x :: r, h => by
    have a : (dOf x).canLay0 = true := by
      have := h x (List.mem_cons_self ..)
      cases x <;> first | rfl | exact this.elim
    show ((dOf x).canLay0 && PyData.canLayAll0 (r.map dOf)) = true
    rw [a, canLay_ok fun v hv => h v (List.mem_cons_of_mem _ hv)]
    rfl
/-- xs != [] -/
theorem op_neNil (hu : X.A.units + 64 < cLine) : OpR X (compareOp .NotEq) (fun x y H Q => ∃ a xs b, x = .ref a ∧ y = .ref b ∧ SqL X.K H a xs ∧ SqL X.K H b [] ∧ (∀ v ∈ xs, okV v) ∧ Q (.bl (!xs.isEmpty)) H) := by
  intro pins s σ H x y v u Q I r1 r2 h
  obtain ⟨a, xs, b, rfl, rfl, hA, hB, ok, q⟩ := h
  obtain ⟨b1, b2, b3, b4, b5⟩ := showAll_ok ok
  refine op_neD hu pins s σ H _ _ v u Q I r1 r2 ⟨.list (xs.map dOf), .list [], .lst hA (dpAll_ok ok), .lst hB .nil, ?_, by decide, ?_⟩
  · unfold SeqAt.shaped
    have c : (PyData.list (xs.map dOf)).canLay0 = true := canLay_ok ok
    rw [c, Bool.true_and]
    refine decide_eq_true ?_
    show PyData.depthAll (xs.map dOf) + 1 ≤ 64
    omega
  · cases xs with
    | nil => exact q
    | cons x r => exact q
end
end Bx

set_option maxHeartbeats 4000000
namespace K11
open PySem PySem.Spec PyProof.Rows L2 Bx
def top (i : Nat) : Stmt := PySem.Challenge.pw_bitlaid_k11_words.main.body.getD i (.Pass ⟨0, 0, 0, 0⟩)
structure Txt (K : PySem.W.Frag) (mg : Str → Option Value) : Prop where
  b_abs : mg "abs" = none
  b_all : mg "all" = none
  b_bool : mg "bool" = none
  b_divmod : mg "divmod" = none
  b_enumerate : mg "enumerate" = none
  b_int : mg "int" = none
  b_isinstance : mg "isinstance" = none
  b_len : mg "len" = none
  b_list : mg "list" = none
  b_max : mg "max" = none
  b_min : mg "min" = none
  b_range : mg "range" = none
  b_repr : mg "repr" = none
  b_reversed : mg "reversed" = none
  b_str : mg "str" = none
  b_sum : mg "sum" = none
  b_tuple : mg "tuple" = none
  c_MOST_BITS : ∃ t, mg "MOST_BITS" = some (.int 80 t)
  c_HALVES : mg "HALVES" = some (.ref (He.ga K "HALVES"))
  t_HALVES : ∀ H, SqT K H (He.ga K "HALVES") [.int 128, .int 64, .int 32, .int 16, .int 8, .int 4, .int 2, .int 1]
  d_is_integer : DefAt K mg "is_integer" (top 8)
  d_want_bits : DefAt K mg "want_bits" (top 9)
  d_fits : DefAt K mg "fits" (top 10)
  d_want_word : DefAt K mg "want_word" (top 11)
  d_is_list : DefAt K mg "is_list" (top 12)
  d_parity_of : DefAt K mg "parity_of" (top 13)
  d_leading_of : DefAt K mg "leading_of" (top 14)
  d_bits_of : DefAt K mg "bits_of" (top 15)
  d_is_word : DefAt K mg "is_word" (top 16)
  d_parity : DefAt K mg "parity" (top 17)
  d_leading_bit : DefAt K mg "leading_bit" (top 18)
  d_positions_of : DefAt K mg "positions_of" (top 19)
  d_word_of : DefAt K mg "word_of" (top 20)
  d_law_pot : DefAt K mg "_law_pot" (top 22)
  d_law_draw : DefAt K mg "_law_draw" (top 23)
  d_law_pick : DefAt K mg "_law_pick" (top 24)
  d_law_bits : DefAt K mg "_law_bits" (top 25)
  d_law_number : DefAt K mg "_law_number" (top 26)
  d_law_turned : DefAt K mg "_law_turned" (top 27)
  d_law_lengths_right : DefAt K mg "_law_lengths_right" (top 28)
  d_law_right : DefAt K mg "_law_right" (top 29)
  d_law : DefAt K mg "law" (top 30)
abbrev nats (ns : List Nat) : List V := ns.map fun n : Nat => V.int n
section
variable {P : Program} {w : World} {K : PySem.W.Frag} {mg : Str → Option Value} {base : Heap}
/-! ### words -/
def sp_is_integer (K : PySem.W.Frag) : Sp := fun vs H Q _ => ∃ v b, vs = [v] ∧ IsI K H v b ∧ Q (.bl b) H
theorem sc_is_integer : FnScope ["value"] ["value"] (defScope (top 8)) := ⟨rfl, rfl, rfl, by decide +kernel, rfl, by decide +kernel, by decide +kernel⟩
theorem ok_is_integer (T : Txt K mg) : CallF P w K mg base CX0 1 "is_integer" ["value"] (sp_is_integer K) := by
  refine callF_of T.d_is_integer sc_is_integer (fun _ _ _ _ _ _ us hl => match us, hl with | [_], _ => rfl) (fun vs H Q E h => ?_) (fun cdv A outer s H vs Q E hr h => ?_)
  · obtain ⟨v, b, rfl, _⟩ := h
    rfl
  · obtain ⟨v, b, rfl, ⟨t, b1, b2, ty, e1, e2, rfl⟩, q⟩ := h
    refine ⟨_, (pss_one (ps_ret (pe_and (pe_callB call_isi (by rfl) T.b_isinstance bb_isinstance (pa_cons (pv 0) (pa_cons (pe_bltn (v := .ty "int") (by rfl) T.b_int bt_int rfl) pa_nil))) (pe_one (pe_not (pe_callB call_isi (by rfl) T.b_isinstance bb_isinstance (pa_cons (pv 0) (pa_cons (pe_bltn (v := .ty "bool") (by rfl) T.b_bool bt_bool rfl) pa_nil)))))))), ?_⟩
    refine ⟨v, rfl, v, .ty "int", t, _, b1, rfl, .ty _, ty, e1, b1, rfl, ?_⟩
    cases b1 with
    | false => exact iteF q
    | true =>
      refine iteT ⟨v, rfl, v, .ty "bool", t, _, b2, rfl, .ty _, ty, e2, b2, rfl, ?_⟩
      exact q
def sp_want_bits : Sp := fun vs H Q _ => ∃ n : Nat, vs = [.int n] ∧ n ≤ 80 ∧ Q .non H
theorem sc_want_bits : FnScope ["bits"] ["bits"] (defScope (top 9)) := ⟨rfl, rfl, rfl, by decide +kernel, rfl, by decide +kernel, by decide +kernel⟩
theorem ok_want_bits (T : Txt K mg) (C_is_integer : CallF P w K mg base CX0 1 "is_integer" ["value"] (sp_is_integer K)) : CallF P w K mg base CX0 2 "want_bits" ["bits"] sp_want_bits := by
  refine callF_of T.d_want_bits sc_want_bits (fun _ _ _ _ _ _ us hl => match us, hl with | [_], _ => rfl) (fun vs H Q E h => ?_) (fun cdv A outer s H vs Q E hr h => ?_)
  · obtain ⟨n, rfl, _⟩ := h
    rfl
  · obtain ⟨n, rfl, hn, q⟩ := h
    refine ⟨_, (pss_one (ps_if (PW.pt (pw_or (pt_not (pt_val (pe_f C_is_integer (hr.mono (by decide)) (by rfl) pass0 (pa_cons (pv 0) pa_nil)))) (pw_or1 (pt_not (pt_chain op_le op_le pe_int (pv 0) (pe_gInt (by rfl) T.c_MOST_BITS))))))
        (pss_one ps_never)
        pss_nil)), ?_⟩
    refine ⟨_, rfl, _, true, rfl, isI_int _, true, rfl, iteF ?_⟩
    have h1 : decide ((0 : Int) ≤ (n : Int)) = true := decide_eq_true (by omega)
    have h2 : decide ((n : Int) ≤ 80) = true := decide_eq_true (by omega)
    refine ⟨_, rfl, _, _, rfl, rfl, _, rfl, ?_⟩
    rw [h1]
    refine iteT ⟨_, _, rfl, rfl, _, rfl, ?_⟩
    rw [h2]
    exact iteF q
def sp_fits (K : PySem.W.Frag) : Sp := fun vs H Q _ => ∃ (v : V) (n : Nat), vs = [v, .int n] ∧ n ≤ 1000 ∧
  ((IsI K H v false ∧ Q (.bl false) H) ∨ ∃ i : Int, v = .int i ∧ Q (.bl (decide (0 ≤ i ∧ i < 2 ^ n))) H)
theorem sc_fits : FnScope ["value", "bits"] ["value", "bits"] (defScope (top 10)) := ⟨rfl, rfl, rfl, by decide +kernel, rfl, by decide +kernel, by decide +kernel⟩
theorem ok_fits (T : Txt K mg) (C_is_integer : CallF P w K mg base CX0 1 "is_integer" ["value"] (sp_is_integer K)) : CallF P w K mg base CX0 2 "fits" ["value", "bits"] (sp_fits K) := by
  refine callF_of T.d_fits sc_fits (fun _ _ _ _ _ _ us hl => match us, hl with | [_, _], _ => rfl) (fun vs H Q E h => ?_) (fun cdv A outer s H vs Q E hr h => ?_)
  · obtain ⟨v, n, rfl, _⟩ := h
    rfl
  · obtain ⟨v, n, rfl, hn, h⟩ := h
    refine ⟨_, (pss_one (ps_ret (pe_and (pe_f C_is_integer (hr.mono (by decide)) (by rfl) pass0 (pa_cons (pv 0) pa_nil)) (pe_one (pe_chain op_le op_lt pe_int (pv 0) (pe_op op_bshl pe_int (pv 1))))))), ?_⟩
    rcases h with ⟨hI, q⟩ | ⟨i, rfl, q⟩
    · exact ⟨_, rfl, _, false, rfl, hI, false, rfl, iteF q⟩
    · refine ⟨_, rfl, _, true, rfl, isI_int _, true, rfl, iteT ?_⟩
      refine ⟨_, rfl, _, _, rfl, rfl, _, rfl, ?_⟩
      by_cases h0 : 0 ≤ i
      · rw [decide_eq_true h0]
        refine iteT ⟨_, rfl, 1, n, rfl, rfl, ⟨by omega, by decide⟩, _, _, rfl, rfl, ?_⟩
        have e : ((1 <<< n : Nat) : Int) = 2 ^ n := by
          rw [Nat.one_shiftLeft, Int.natCast_pow]
          rfl
        show Q (.bl (decide (i < ((1 <<< n : Nat) : Int)))) H
        rw [e]
        simpa [h0] using q
      · rw [decide_eq_false h0]
        refine iteF ?_
        simpa [h0] using q
def sp_want_word : Sp := fun vs H Q _ => ∃ m n : Nat, vs = [.int m, .int n] ∧ n ≤ 1000 ∧ m < 2 ^ n ∧ Q .non H
theorem sc_want_word : FnScope ["word", "bits"] ["word", "bits"] (defScope (top 11)) := ⟨rfl, rfl, rfl, by decide +kernel, rfl, by decide +kernel, by decide +kernel⟩
theorem ok_want_word (T : Txt K mg) (C_fits : CallF P w K mg base CX0 2 "fits" ["value", "bits"] (sp_fits K)) : CallF P w K mg base CX0 3 "want_word" ["word", "bits"] sp_want_word := by
  refine callF_of T.d_want_word sc_want_word (fun _ _ _ _ _ _ us hl => match us, hl with | [_, _], _ => rfl) (fun vs H Q E h => ?_) (fun cdv A outer s H vs Q E hr h => ?_)
  · obtain ⟨m, n, rfl, _⟩ := h
    rfl
  · obtain ⟨m, n, rfl, hn, hm, q⟩ := h
    refine ⟨_, (pss_one (ps_if (pt_not (pt_val (pe_f C_fits (hr.mono (by decide)) (by rfl) pass0 (pa_cons (pv 0) (pa_cons (pv 1) pa_nil)))))
        (pss_one ps_never)
        pss_nil)), ?_⟩
    have e : decide ((0 : Int) ≤ (m : Int) ∧ (m : Int) < 2 ^ n) = true := decide_eq_true ⟨by omega, by
      have : ((2 ^ n : Nat) : Int) = 2 ^ n := by rw [Int.natCast_pow]; rfl
      omega⟩
    refine ⟨_, rfl, _, rfl, _, n, rfl, hn, .inr ⟨_, rfl, ?_⟩⟩
    rw [e]
    exact ⟨true, rfl, iteF q⟩
def IsSeq (H : Hp) (a : Addr) (xs : List V) : Prop := H a = some (.lst xs) ∨ H a = some (.tup xs)
def sp_is_list : Sp := fun vs H Q _ => ∃ a xs, vs = [.ref a] ∧ IsSeq H a xs ∧ ∀ H', Same H H' → Q (.bl true) H'
theorem sc_is_list : FnScope ["value"] ["value"] (defScope (top 12)) := ⟨rfl, rfl, rfl, by decide +kernel, rfl, by decide +kernel, by decide +kernel⟩
theorem ok_is_list (T : Txt K mg) : CallF P w K mg base CX0 1 "is_list" ["value"] sp_is_list := by
  refine callF_of T.d_is_list sc_is_list (fun _ _ _ _ _ _ us hl => match us, hl with | [_], _ => rfl) (fun vs H Q E h => ?_) (fun cdv A outer s H vs Q E hr h => ?_)
  · obtain ⟨a, xs, rfl, _⟩ := h
    rfl
  · obtain ⟨a, xs, rfl, hs, q⟩ := h
    refine ⟨_, (pss_one (ps_ret (pe_callB call_isiT (by rfl) T.b_isinstance bb_isinstance (pa_cons (pv 0) (pa_cons (pe_tup (pa_cons (pe_bltn (v := .ty "list") (by rfl) T.b_list bt_list rfl) (pa_cons (pe_bltn (v := .ty "tuple") (by rfl) T.b_tuple bt_tuple rfl) pa_nil))) pa_nil))))), ?_⟩
    refine ⟨_, rfl, by show 2 ≤ sizeLine; decide, fun p hp => ?_⟩
    have sm : Same H (upd H p (.tup [.ty "list", .ty "tuple"])) := same_upd hp
    rcases hs with hs | hs
    · exact ⟨_, p, _, _, _, true, rfl, upd_same, .cons (.ty _) (.cons (.ty _) .nil), .base (.lst (sm _ _ hs)), kitAny_cons (b := true) (kit_ty (by decide +kernel)) (fun z => nomatch z) (fun _ => rfl), q _ sm⟩
    · exact ⟨_, p, _, _, _, true, rfl, upd_same, .cons (.ty _) (.cons (.ty _) .nil), .base (.tup (sm _ _ hs)), kitAny_cons (b := false) (kit_ty (by decide +kernel)) (fun _ => kitAny_cons (b := true) (kit_ty (by decide +kernel)) (fun z => nomatch z) (fun _ => rfl)) (fun z => nomatch z), q _ sm⟩
abbrev halves : List Nat := [128, 64, 32, 16, 8, 4, 2, 1]
theorem halves_at {i : Nat} {x : V} (h : ([.int 128, .int 64, .int 32, .int 16, .int 8, .int 4, .int 2, .int 1] : List V)[i]? = some x) : ∃ n : Nat, halves[i]? = some n ∧ x = .int n ∧ n ≤ 128 := by
  match i, h with
  | 0, h => exact ⟨128, rfl, (Option.some.inj h).symm, by decide⟩
  | 1, h => exact ⟨64, rfl, (Option.some.inj h).symm, by decide⟩
  | 2, h => exact ⟨32, rfl, (Option.some.inj h).symm, by decide⟩
  | 3, h => exact ⟨16, rfl, (Option.some.inj h).symm, by decide⟩
  | 4, h => exact ⟨8, rfl, (Option.some.inj h).symm, by decide⟩
  | 5, h => exact ⟨4, rfl, (Option.some.inj h).symm, by decide⟩
  | 6, h => exact ⟨2, rfl, (Option.some.inj h).symm, by decide⟩
  | 7, h => exact ⟨1, rfl, (Option.some.inj h).symm, by decide⟩
  | i + 8, h => exact nomatch h
def sp_parity_of : Sp := fun vs H Q _ => ∃ n : Nat, vs = [.int n] ∧ Q (.int (parN n : Nat)) H
theorem sc_parity_of : FnScope ["word", "found", "half"] ["word"] (defScope (top 13)) := ⟨rfl, rfl, rfl, by decide +kernel, rfl, by decide +kernel, by decide +kernel⟩
theorem ok_parity_of (T : Txt K mg) : CallF P w K mg base CX0 1 "parity_of" ["word"] sp_parity_of := by
  refine callF_of T.d_parity_of sc_parity_of (fun _ _ _ _ _ _ us hl => match us, hl with | [_], _ => rfl) (fun vs H Q E h => ?_) (fun cdv A outer s H vs Q E hr h => ?_)
  · obtain ⟨n, rfl, _⟩ := h
    rfl
  · obtain ⟨n, rfl, q⟩ := h
    refine ⟨_, (pss_cons (ps_set (i := 1) sc_parity_of.nd rfl (.inl rfl) (pv 0))
      (pss_cons (ps_for PassesOwn.never rfl (pi_tup (pe_gRef (by rfl) T.c_HALVES)) (pg_name (i := 2) sc_parity_of.nd rfl (.inl rfl))
          (pss_one (ps_set (i := 1) sc_parity_of.nd rfl (.inl rfl) (pe_op op_bxor (pv 1) (pe_op op_bshr (pv 1) (pv 2))))))
      (pss_one (ps_ret (pe_op op_band (pv 1) pe_int))))), ?_⟩
    refine ⟨_, rfl, _, rfl, ⟨_, T.t_HALVES H⟩, for_tup (K := K) (xs := [.int 128, .int 64, .int 32, .int 16, .int 8, .int 4, .int 2, .int 1]) (fun i σ H2 => ∃ y, σ = [some (.int n), some (.int (foldH n (halves.take i) : Nat)), y] ∧ H2 = H)
      ⟨none, rfl, rfl⟩ (fun i σ H2 _ ⟨_, _, e⟩ => T.t_HALVES _) ?_ ?_⟩
    · rintro i x σ H2 hx ⟨y, rfl, rfl⟩
      obtain ⟨h, e1, rfl, _⟩ := halves_at hx
      refine ⟨_, rfl, _, rfl, _, rfl, _, h, rfl, rfl, _, _, rfl, rfl, some (.int h), ?_, rfl⟩
      rw [foldH_take n halves i h e1]
      rfl
    · rintro σ H2 ⟨y, rfl, rfl⟩
      refine ⟨_, rfl, _, 1, rfl, rfl, ?_⟩
      have e := par_fold n
      show Q (.int ((foldH n [128, 64, 32, 16, 8, 4, 2, 1] &&& 1 : Nat) : Int)) H2
      rw [e]
      exact q
def sp_leading_of : Sp := fun vs H Q _ => ∃ n : Nat, vs = [.int n] ∧ 0 < n ∧ n < 2 ^ 256 ∧ Q (.int (n.log2 : Nat)) H
theorem sc_leading_of : FnScope ["word", "found", "rest", "half"] ["word"] (defScope (top 14)) := ⟨rfl, rfl, rfl, by decide +kernel, rfl, by decide +kernel, by decide +kernel⟩
theorem ok_leading_of (T : Txt K mg) : CallF P w K mg base CX0 1 "leading_of" ["word"] sp_leading_of := by
  refine callF_of T.d_leading_of sc_leading_of (fun _ _ _ _ _ _ us hl => match us, hl with | [_], _ => rfl) (fun vs H Q E h => ?_) (fun cdv A outer s H vs Q E hr h => ?_)
  · obtain ⟨n, rfl, _⟩ := h
    rfl
  · obtain ⟨n, rfl, h0, hb, q⟩ := h
    refine ⟨_, (pss_cons (ps_set (i := 1) sc_leading_of.nd rfl (.inl rfl) pe_int)
      (pss_cons (ps_set (i := 2) sc_leading_of.nd rfl (.inl rfl) (pv 0))
      (pss_cons (ps_for PassesOwn.never rfl (pi_tup (pe_gRef (by rfl) T.c_HALVES)) (pg_name (i := 3) sc_leading_of.nd rfl (.inl rfl))
          (pss_one (ps_if (pt_cmpR op_gt (pe_op op_bshr (pv 2) (pv 3)) pe_int (nomark _))
            (pss_cons (ps_set (i := 2) sc_leading_of.nd rfl (.inl rfl) (pe_op op_bshr (pv 2) (pv 3)))
            (pss_one (ps_set (i := 1) sc_leading_of.nd rfl (.inl rfl) (pe_op op_add (pv 1) (pv 3)))))
            pss_nil)))
      (pss_one (ps_ret (pv 1)))))), ?_⟩
    refine ⟨_, rfl, _, rfl, ⟨_, T.t_HALVES H⟩, for_tup (K := K) (xs := [.int 128, .int 64, .int 32, .int 16, .int 8, .int 4, .int 2, .int 1]) (fun i σ H2 => ∃ y, σ = [some (.int n), some (.int (((halves.take i).foldl leadStep (n, 0)).2 : Nat)), some (.int (((halves.take i).foldl leadStep (n, 0)).1 : Nat)), y] ∧ H2 = H)
      ⟨none, rfl, rfl⟩ (fun i σ H2 _ ⟨_, _, e⟩ => T.t_HALVES _) ?_ ?_⟩
    · rintro i x σ H2 hx ⟨y, rfl, rfl⟩
      obtain ⟨h, e1, rfl, _⟩ := halves_at hx
      have es : ((halves.take (i + 1)).foldl leadStep (n, 0)) = leadStep ((halves.take i).foldl leadStep (n, 0)) h := by
        rw [List.take_add_one, e1, List.foldl_append]
        rfl
      generalize hp : (halves.take i).foldl leadStep (n, 0) = p at *
      refine ⟨_, rfl, _, rfl, _, h, rfl, rfl, _, _, rfl, rfl, _, rfl, ?_⟩
      by_cases hc : p.1 >>> h > 0
      · have hd : decide (((p.1 >>> h : Nat) : Int) > 0) = true := decide_eq_true (by omega)
        rw [hd]
        refine iteT ⟨_, rfl, _, rfl, _, h, rfl, rfl, _, rfl, _, rfl, _, _, rfl, rfl, some (.int h), ?_, rfl⟩
        rw [es]
        unfold leadStep
        rw [if_pos hc]
        rfl
      · have hd : decide (((p.1 >>> h : Nat) : Int) > 0) = false := decide_eq_false (by omega)
        rw [hd]
        refine iteF ⟨some (.int h), ?_, rfl⟩
        rw [es]
        unfold leadStep
        rw [if_neg hc]
        rfl
    · rintro σ H2 ⟨y, rfl, rfl⟩
      refine ⟨_, rfl, ?_⟩
      have e := lead_fold n h0 hb
      show Q (.int ((([128, 64, 32, 16, 8, 4, 2, 1] : List Nat).foldl leadStep (n, 0)).2 : Nat)) H2
      rw [e]
      exact q
end
end K11

set_option maxHeartbeats 4000000
namespace K11
open PySem PySem.Spec PyProof.Rows L2 Bx
section
variable {P : Program} {w : World} {K : PySem.W.Frag} {mg : Str → Option Value} {base : Heap}
def sp_bits_of : Sp := fun vs H Q _ => ∃ n : Nat, vs = [.int n] ∧ n < 2 ^ 256 ∧ ∀ p H', Same H H' → H p = none → H' p = some (.lst (nats (bitsN n))) → Q (.ref p) H'
theorem sc_bits_of : FnScope ["word", "k"] ["word"] (defScope (top 15)) := ⟨rfl, rfl, rfl, by decide +kernel, rfl, by decide +kernel, by decide +kernel⟩
theorem log2_256 {n : Nat} (h0 : 0 < n) (h : n < 2 ^ 256) : n.log2 < 256 := (Nat.log2_lt (by omega)).mpr h
theorem filt_len (n i : Nat) : ((List.range i).filter n.testBit).length ≤ i := by
  have := List.length_filter_le n.testBit (List.range i)
  rwa [List.length_range] at this
theorem ok_bits_of (T : Txt K mg) (C_leading_of : CallF P w K mg base CX0 1 "leading_of" ["word"] sp_leading_of) : CallF P w K mg base CX0 2 "bits_of" ["word"] sp_bits_of := by
  refine callF_of T.d_bits_of sc_bits_of (fun _ _ _ _ _ _ us hl => match us, hl with | [_], _ => rfl) (fun vs H Q E h => ?_) (fun cdv A outer s H vs Q E hr h => ?_)
  · obtain ⟨n, rfl, _⟩ := h
    rfl
  · obtain ⟨n, rfl, hb, q⟩ := h
    refine ⟨_, (pss_cons (ps_if (pt_cmpR op_eq (pv 0) pe_int (nomark _))
          (pss_one (ps_ret (pe_lst pa_nil)))
          pss_nil)
      (pss_one (ps_ret (pe_lc (own := [("k", 1)]) (by rfl) sc_bits_of.nd (pi_range1 (by rfl) T.b_range (pa_cons (pe_op op_add (pe_f C_leading_of (hr.mono (by decide)) (by rfl) pass0 (pa_cons (pv 0) pa_nil)) pe_int) pa_nil)) (blkOk_by (own := [("k", 1)]) (N := ["word", "k"]) (sc := defScope (top 15)) (by decide +kernel)) (fun _ _ _ _ _ => (pg_name (i := 1) sc_bits_of.nd rfl (.inl rfl))) (fun _ _ _ _ _ => (pts_one (pt_cmpR op_eq (pe_op op_band (pe_op op_bshr (pv 0) (pv 1)) pe_int) pe_int (nomark _)))) (fun _ _ _ _ _ => (pv 1)))))), ?_⟩
    refine ⟨_, rfl, rfl, _, rfl, ite2 (fun e => ?_) (fun e => ?_)⟩
    · have e0 : n = 0 := by
        have := V.int.inj (of_decide_eq_true e)
        omega
      subst e0
      exact ⟨Nat.zero_le _, fun p hp => q p _ (same_upd hp) hp upd_same⟩
    · have h0 : 0 < n := by
        rcases Nat.eq_zero_or_pos n with z | z
        · subst z
          exact absurd (decide_eq_true rfl) e
        · exact z
      have hl := log2_256 h0 hb
      refine ⟨_, rfl, n, rfl, h0, hb, _, _, rfl, rfl, ((n.log2 : Int) + 1), rfl, by omega, by omega, fun D hD => ?_⟩
      have et : ((n.log2 : Int) + 1).toNat = n.log2 + 1 := by omega
      rw [et]
      refine lc_range (lo := 0) (n := n.log2 + 1) (fun i H' => Same H H' ∧ H' D = some (.lst (nats ((List.range i).filter n.testBit)))) ⟨same_upd hD, upd_same⟩ ?_ ?_
      · rintro i H' hi ⟨sm, hd⟩
        refine ⟨rfl, _, rfl, _, rfl, n, i, rfl, by simp, _, 1, rfl, rfl, rfl, _, rfl, ?_⟩
        show if decide (V.int ((n >>> i &&& 1 : Nat) : Int) = V.int 1) = true then _ else _
        rw [shr_one]
        cases hbit : n.testBit i with
        | true =>
          refine iteT ⟨_, rfl, _, hd, ?_, same_put sm hD, ?_⟩
          · rw [List.length_map]
            exact Nat.lt_of_le_of_lt (filt_len n i) (small1000 (by omega))
          · rw [upd_same, List.range_succ, List.filter_append]
            simp [hbit]
        | false =>
          refine iteF ⟨sm, ?_⟩
          rw [hd, List.range_succ, List.filter_append]
          simp [hbit]
      · rintro H' ⟨sm, hd⟩
        exact q D H' sm hD hd
def sp_is_word (K : PySem.W.Frag) : Sp := fun vs H Q _ => ∃ (v : V) (n : Nat), vs = [v, .int n] ∧ n ≤ 80 ∧
  ((IsI K H v false ∧ Q (.bl false) H) ∨ ∃ i : Int, v = .int i ∧ Q (.bl (decide (0 ≤ i ∧ i < 2 ^ n))) H)
theorem sc_is_word : FnScope ["value", "bits"] ["value", "bits"] (defScope (top 16)) := ⟨rfl, rfl, rfl, by decide +kernel, rfl, by decide +kernel, by decide +kernel⟩
theorem ok_is_word (T : Txt K mg) (C_want_bits : CallF P w K mg base CX0 2 "want_bits" ["bits"] sp_want_bits) (C_fits : CallF P w K mg base CX0 2 "fits" ["value", "bits"] (sp_fits K)) : CallF P w K mg base CX0 3 "is_word" ["value", "bits"] (sp_is_word K) := by
  refine callF_of T.d_is_word sc_is_word (fun _ _ _ _ _ _ us hl => match us, hl with | [_, _], _ => rfl) (fun vs H Q E h => ?_) (fun cdv A outer s H vs Q E hr h => ?_)
  · obtain ⟨v, n, rfl, _⟩ := h
    rfl
  · obtain ⟨v, n, rfl, hn, h⟩ := h
    refine ⟨_, (pss_cons (ps_expr (pe_f C_want_bits (hr.mono (by decide)) (by rfl) pass0 (pa_cons (pv 1) pa_nil)))
      (pss_one (ps_ret (pe_f C_fits (hr.mono (by decide)) (by rfl) pass0 (pa_cons (pv 0) (pa_cons (pv 1) pa_nil)))))), ?_⟩
    exact ⟨_, rfl, n, rfl, hn, _, rfl, _, rfl, _, n, rfl, by omega, h⟩
def sp_parity : Sp := fun vs H Q _ => ∃ n : Nat, vs = [.int n] ∧ n < 2 ^ 80 ∧ Q (.int (parN n : Nat)) H
theorem sc_parity : FnScope ["word"] ["word"] (defScope (top 17)) := ⟨rfl, rfl, rfl, by decide +kernel, rfl, by decide +kernel, by decide +kernel⟩
theorem ok_parity (T : Txt K mg) (C_want_word : CallF P w K mg base CX0 3 "want_word" ["word", "bits"] sp_want_word) (C_parity_of : CallF P w K mg base CX0 1 "parity_of" ["word"] sp_parity_of) : CallF P w K mg base CX0 4 "parity" ["word"] sp_parity := by
  refine callF_of T.d_parity sc_parity (fun _ _ _ _ _ _ us hl => match us, hl with | [_], _ => rfl) (fun vs H Q E h => ?_) (fun cdv A outer s H vs Q E hr h => ?_)
  · obtain ⟨n, rfl, _⟩ := h
    rfl
  · obtain ⟨n, rfl, hn, q⟩ := h
    refine ⟨_, (pss_cons (ps_expr (pe_f C_want_word (hr.mono (by decide)) (by rfl) pass0 (pa_cons (pv 0) (pa_cons (pe_gInt (by rfl) T.c_MOST_BITS) pa_nil))))
      (pss_one (ps_ret (pe_f C_parity_of (hr.mono (by decide)) (by rfl) pass0 (pa_cons (pv 0) pa_nil))))), ?_⟩
    exact ⟨_, rfl, n, 80, rfl, by decide, hn, _, rfl, n, rfl, q⟩
def sp_leading_bit : Sp := fun vs H Q _ => ∃ n : Nat, vs = [.int n] ∧ n < 2 ^ 80 ∧ Q (if n = 0 then .non else .int (n.log2 : Nat)) H
theorem sc_leading_bit : FnScope ["word"] ["word"] (defScope (top 18)) := ⟨rfl, rfl, rfl, by decide +kernel, rfl, by decide +kernel, by decide +kernel⟩
theorem lt256 {n : Nat} (h : n < 2 ^ 80) : n < 2 ^ 256 := Nat.lt_of_lt_of_le h (Nat.pow_le_pow_right (by decide) (by decide))
theorem ok_leading_bit (T : Txt K mg) (C_want_word : CallF P w K mg base CX0 3 "want_word" ["word", "bits"] sp_want_word) (C_leading_of : CallF P w K mg base CX0 1 "leading_of" ["word"] sp_leading_of) : CallF P w K mg base CX0 4 "leading_bit" ["word"] sp_leading_bit := by
  refine callF_of T.d_leading_bit sc_leading_bit (fun _ _ _ _ _ _ us hl => match us, hl with | [_], _ => rfl) (fun vs H Q E h => ?_) (fun cdv A outer s H vs Q E hr h => ?_)
  · obtain ⟨n, rfl, _⟩ := h
    rfl
  · obtain ⟨n, rfl, hn, q⟩ := h
    refine ⟨_, (pss_cons (ps_expr (pe_f C_want_word (hr.mono (by decide)) (by rfl) pass0 (pa_cons (pv 0) (pa_cons (pe_gInt (by rfl) T.c_MOST_BITS) pa_nil))))
      (pss_one (ps_ret (pe_ifExp (pt_cmpR op_eq (pv 0) pe_int (nomark _)) pe_non (pe_f C_leading_of (hr.mono (by decide)) (by rfl) pass0 (pa_cons (pv 0) pa_nil)))))), ?_⟩
    refine ⟨_, rfl, n, 80, rfl, by decide, hn, _, rfl, rfl, _, rfl, ite2 (fun e => ?_) (fun e => ?_)⟩
    · have e0 : n = 0 := by
        have := V.int.inj (of_decide_eq_true e)
        omega
      rw [if_pos e0] at q
      exact q
    · have e0 : ¬ n = 0 := fun z => by
        subst z
        exact e (decide_eq_true rfl)
      rw [if_neg e0] at q
      exact ⟨_, rfl, n, rfl, by omega, lt256 hn, q⟩
def sp_positions_of : Sp := fun vs H Q _ => ∃ n : Nat, vs = [.int n] ∧ n < 2 ^ 80 ∧ ∀ p H', Same H H' → H p = none → H' p = some (.lst (nats (bitsN n))) → Q (.ref p) H'
theorem sc_positions_of : FnScope ["word"] ["word"] (defScope (top 19)) := ⟨rfl, rfl, rfl, by decide +kernel, rfl, by decide +kernel, by decide +kernel⟩
theorem ok_positions_of (T : Txt K mg) (C_want_word : CallF P w K mg base CX0 3 "want_word" ["word", "bits"] sp_want_word) (C_bits_of : CallF P w K mg base CX0 2 "bits_of" ["word"] sp_bits_of) : CallF P w K mg base CX0 4 "positions_of" ["word"] sp_positions_of := by
  refine callF_of T.d_positions_of sc_positions_of (fun _ _ _ _ _ _ us hl => match us, hl with | [_], _ => rfl) (fun vs H Q E h => ?_) (fun cdv A outer s H vs Q E hr h => ?_)
  · obtain ⟨n, rfl, _⟩ := h
    rfl
  · obtain ⟨n, rfl, hn, q⟩ := h
    refine ⟨_, (pss_cons (ps_expr (pe_f C_want_word (hr.mono (by decide)) (by rfl) pass0 (pa_cons (pv 0) (pa_cons (pe_gInt (by rfl) T.c_MOST_BITS) pa_nil))))
      (pss_one (ps_ret (pe_f C_bits_of (hr.mono (by decide)) (by rfl) pass0 (pa_cons (pv 0) pa_nil))))), ?_⟩
    exact ⟨_, rfl, n, 80, rfl, by decide, hn, _, rfl, n, rfl, lt256 hn, q⟩
end
end K11

set_option maxHeartbeats 4000000
namespace K11
open PySem PySem.Spec PyProof.Rows L2 Bx
section
variable {P : Program} {w : World} {K : PySem.W.Frag} {mg : Str → Option Value} {base : Heap}
def sp_word_of : Sp := fun vs H Q _ => ∃ (a : Addr) (ks : List Nat), vs = [.ref a] ∧ IsSeq H a (nats ks) ∧ ks.Nodup ∧ (∀ k ∈ ks, k < 80) ∧ ∀ H', Same H H' → Q (.int (orAll ks : Nat)) H'
theorem sc_word_of : FnScope ["positions", "found", "position", "k"] ["positions"] (defScope (top 20)) := ⟨rfl, rfl, rfl, by decide +kernel, rfl, by decide +kernel, by decide +kernel⟩
theorem nats_at {ks : List Nat} {i : Nat} {y : V} (h : (nats ks)[i]? = some y) : ∃ k : Nat, ks[i]? = some k ∧ y = .int k := by
  rw [List.getElem?_map] at h
  cases e : ks[i]? with
  | none =>
    rw [e] at h
    cases h
  | some k =>
    rw [e] at h
    exact ⟨k, rfl, (Option.some.inj h).symm⟩
theorem nodup_take {ks : List Nat} (nd : ks.Nodup) {i k : Nat} (e : ks[i]? = some k) : k ∉ ks.take i := by
  intro hm
  obtain ⟨j, hj, ej⟩ := List.mem_iff_getElem.mp hm
  rw [List.length_take] at hj
  have ej2 : ks[j]? = some k := by
    rw [List.getElem_take] at ej
    rw [List.getElem?_eq_getElem (by omega), ej]
  have hi := (List.getElem?_eq_some_iff.mp e).1
  have := (List.getElem?_inj (i := j) (j := i) (by omega) nd).mp (ej2.trans e.symm)
  omega
/-- one turn of word_of's loop -/
theorem word_turn {ks : List Nat} {i k : Nat} (nd : ks.Nodup) (e : ks[i]? = some k) : (orAll (ks.take i)).testBit k = false ∧ orAll (ks.take (i + 1)) = orAll (ks.take i) ||| 1 <<< k := by
  refine ⟨?_, ?_⟩
  · rw [orAll_testBit]
    exact decide_eq_false (nodup_take nd e)
  · rw [List.take_add_one, e, ← orAll_snoc]
    rfl
theorem ok_word_of (T : Txt K mg) (C_is_list : CallF P w K mg base CX0 1 "is_list" ["value"] sp_is_list) (C_is_integer : CallF P w K mg base CX0 1 "is_integer" ["value"] (sp_is_integer K)) : CallF P w K mg base CX0 2 "word_of" ["positions"] sp_word_of := by
  refine callF_of T.d_word_of sc_word_of (fun _ _ _ _ _ _ us hl => match us, hl with | [_], _ => rfl) (fun vs H Q E h => ?_) (fun cdv A outer s H vs Q E hr h => ?_)
  · obtain ⟨a, ks, rfl, _⟩ := h
    rfl
  · obtain ⟨a, ks, rfl, hs, nd, hk, q⟩ := h
    rcases hs with hs | hs
    · refine ⟨_, (pss_cons (ps_if (pt_not (pt_val (pe_f C_is_list (hr.mono (by decide)) (by rfl) pass0 (pa_cons (pv 0) pa_nil))))
          (pss_one ps_never)
          pss_nil)
      (pss_cons (ps_set (i := 1) sc_word_of.nd rfl (.inl rfl) pe_int)
      (pss_cons (ps_for PassesOwn.never rfl (pi_enum (by rfl) T.b_enumerate (pa_cons (pv 0) pa_nil)) (pg_tup (by rfl) (pgs_cons (pg_name (i := 2) sc_word_of.nd rfl (.inl rfl)) (pgs_cons (pg_name (i := 3) sc_word_of.nd rfl (.inl rfl)) pgs_nil)))
          (pss_cons (ps_if (PW.pt (pw_or (pt_not (pt_val (pe_f C_is_integer (hr.mono (by decide)) (by rfl) pass0 (pa_cons (pv 3) pa_nil)))) (pw_or (pt_not (pt_chain op_le op_lt pe_int (pv 3) (pe_gInt (by rfl) T.c_MOST_BITS))) (pw_or1 (pt_cmpR op_eq (pe_op op_band (pe_op op_bshr (pv 1) (pv 3)) pe_int) pe_int (nomark _))))))
              (pss_one ps_never)
              pss_nil)
          (pss_one (ps_set (i := 1) sc_word_of.nd rfl (.inl rfl) (pe_op op_bor (pv 1) (pe_op op_bshl pe_int (pv 3)))))))
      (pss_one (ps_ret (pv 1)))))), ?_⟩
      refine ⟨_, rfl, a, _, rfl, .inl hs, fun H1 s1 => ⟨true, rfl, iteF ?_⟩⟩
      refine ⟨_, rfl, a, _, rfl, .inl (.inl (s1 _ _ hs)), for_it (walk_enum (xs := nats ks)) (fun i σ H2 => ∃ y2 y3, σ = [some (.ref a), some (.int (orAll (ks.take i) : Nat)), y2, y3] ∧ Same H H2)
        ⟨none, none, rfl, s1⟩ (fun i σ H2 _ ⟨_, _, _, sm⟩ => .inl (.inl (sm _ _ hs))) ?_ ?_⟩
      · rintro i v σ H2 H3 hi ⟨y2, y3, rfl, sm⟩ ⟨t, x, y, rfl, ht, rfl, hx, hy⟩
        have ex : x = .int (i : Nat) := (Option.some.inj hx).symm
        subst ex
        obtain ⟨k, ek, rfl⟩ := nats_at hy
        have k80 := hk k (List.mem_of_getElem? ek)
        obtain ⟨hb, hn⟩ := word_turn nd ek
        refine ⟨t, _, rfl, .inl (.inl upd_same), rfl, _, _, rfl, _, _, rfl, rfl, ?_⟩
        refine ⟨_, rfl, _, true, rfl, isI_int _, true, rfl, iteF ?_⟩
        refine ⟨_, rfl, _, _, rfl, rfl, _, rfl, ?_⟩
        rw [decide_eq_true (show (0 : Int) ≤ (k : Int) by omega)]
        refine iteT ⟨_, _, rfl, rfl, _, rfl, ?_⟩
        rw [decide_eq_true (show (k : Int) < 80 by omega)]
        refine iteF ⟨_, rfl, _, rfl, _, k, rfl, rfl, _, 1, rfl, rfl, rfl, _, rfl, ?_⟩
        show if decide (V.int ((orAll (ks.take i) >>> k &&& 1 : Nat) : Int) = V.int 1) = true then _ else _
        rw [shr_one, hb]
        refine iteF ⟨_, rfl, _, rfl, 1, k, rfl, rfl, ⟨by omega, by decide⟩, _, _, rfl, rfl, some (.int (i : Nat)), some (.int k), ?_, same_new sm ht⟩
        rw [hn]
        rfl
      · rintro σ H2 ⟨y2, y3, rfl, sm⟩
        have e : ks.take (nats ks).length = ks := by
          rw [List.length_map, List.take_length]
        rw [e]
        exact ⟨_, rfl, q H2 sm⟩
    · refine ⟨_, (pss_cons (ps_if (pt_not (pt_val (pe_f C_is_list (hr.mono (by decide)) (by rfl) pass0 (pa_cons (pv 0) pa_nil))))
          (pss_one ps_never)
          pss_nil)
      (pss_cons (ps_set (i := 1) sc_word_of.nd rfl (.inl rfl) pe_int)
      (pss_cons (ps_for PassesOwn.never rfl (pi_enumT (by rfl) T.b_enumerate (pa_cons (pv 0) pa_nil)) (pg_tup (by rfl) (pgs_cons (pg_name (i := 2) sc_word_of.nd rfl (.inl rfl)) (pgs_cons (pg_name (i := 3) sc_word_of.nd rfl (.inl rfl)) pgs_nil)))
          (pss_cons (ps_if (PW.pt (pw_or (pt_not (pt_val (pe_f C_is_integer (hr.mono (by decide)) (by rfl) pass0 (pa_cons (pv 3) pa_nil)))) (pw_or (pt_not (pt_chain op_le op_lt pe_int (pv 3) (pe_gInt (by rfl) T.c_MOST_BITS))) (pw_or1 (pt_cmpR op_eq (pe_op op_band (pe_op op_bshr (pv 1) (pv 3)) pe_int) pe_int (nomark _))))))
              (pss_one ps_never)
              pss_nil)
          (pss_one (ps_set (i := 1) sc_word_of.nd rfl (.inl rfl) (pe_op op_bor (pv 1) (pe_op op_bshl pe_int (pv 3)))))))
      (pss_one (ps_ret (pv 1)))))), ?_⟩
      refine ⟨_, rfl, a, _, rfl, .inr hs, fun H1 s1 => ⟨true, rfl, iteF ?_⟩⟩
      refine ⟨_, rfl, a, _, rfl, .inl (.inl (s1 _ _ hs)), for_it (walk_enumT (xs := nats ks)) (fun i σ H2 => ∃ y2 y3, σ = [some (.ref a), some (.int (orAll (ks.take i) : Nat)), y2, y3] ∧ Same H H2)
        ⟨none, none, rfl, s1⟩ (fun i σ H2 _ ⟨_, _, _, sm⟩ => .inl (.inl (sm _ _ hs))) ?_ ?_⟩
      · rintro i v σ H2 H3 hi ⟨y2, y3, rfl, sm⟩ ⟨t, x, y, rfl, ht, rfl, hx, hy⟩
        have ex : x = .int (i : Nat) := (Option.some.inj hx).symm
        subst ex
        obtain ⟨k, ek, rfl⟩ := nats_at hy
        have k80 := hk k (List.mem_of_getElem? ek)
        obtain ⟨hb, hn⟩ := word_turn nd ek
        refine ⟨t, _, rfl, .inl (.inl upd_same), rfl, _, _, rfl, _, _, rfl, rfl, ?_⟩
        refine ⟨_, rfl, _, true, rfl, isI_int _, true, rfl, iteF ?_⟩
        refine ⟨_, rfl, _, _, rfl, rfl, _, rfl, ?_⟩
        rw [decide_eq_true (show (0 : Int) ≤ (k : Int) by omega)]
        refine iteT ⟨_, _, rfl, rfl, _, rfl, ?_⟩
        rw [decide_eq_true (show (k : Int) < 80 by omega)]
        refine iteF ⟨_, rfl, _, rfl, _, k, rfl, rfl, _, 1, rfl, rfl, rfl, _, rfl, ?_⟩
        show if decide (V.int ((orAll (ks.take i) >>> k &&& 1 : Nat) : Int) = V.int 1) = true then _ else _
        rw [shr_one, hb]
        refine iteF ⟨_, rfl, _, rfl, 1, k, rfl, rfl, ⟨by omega, by decide⟩, _, _, rfl, rfl, some (.int (i : Nat)), some (.int k), ?_, same_new sm ht⟩
        rw [hn]
        rfl
      · rintro σ H2 ⟨y2, y3, rfl, sm⟩
        have e : ks.take (nats ks).length = ks := by
          rw [List.length_map, List.take_length]
        rw [e]
        exact ⟨_, rfl, q H2 sm⟩
end
end K11

set_option maxHeartbeats 4000000
namespace K11
open PySem PySem.Spec PyProof.Rows L2 Bx
section
variable {P : Program} {w : World} {K : PySem.W.Frag} {mg : Str → Option Value} {base : Heap}
/-! ### the drawing -/
def PotAt (H : Hp) (p : Addr) : Prop := ∃ a b : Nat, H p = some (.lst [.int a, .int b]) ∧ b < 2147483647
theorem no_pylong {i j : Int} (h0 : 0 < j) (h : j < 2 ^ 62) : Builtin.divisionGoesByPylong i j = false := by
  have hj : ¬ j = 0 := by omega
  have hn : j.natAbs.log2 < 62 := by
    refine (Nat.log2_lt (by omega)).mpr ?_
    omega
  have e : (j == 0) = false := by simpa using hj
  unfold Builtin.divisionGoesByPylong
  simp only [e]
  have : ¬ (j.natAbs.log2 / 30 + 1 > 300) := by omega
  simp [this]
def sp_pot (K : PySem.W.Frag) : Sp := fun vs H Q _ => ∃ (a : Addr) (ns : List Int) (k : Nat), vs = [.ref a, .int k] ∧ SqL K H a (ns.map V.int) ∧ k ≤ 100 ∧
  ∀ p H', Same H H' → H p = none → PotAt H' p → Q (.ref p) H'
theorem sc_law_pot : FnScope ["_law_script", "_law_k", "_law_cell"] ["_law_script", "_law_k"] (defScope (top 22)) := ⟨rfl, rfl, rfl, by decide +kernel, rfl, by decide +kernel, by decide +kernel⟩
theorem pot_new {H : Hp} {p : Addr} {x y : Int} (hx : 0 ≤ x) (hy : 0 ≤ y) (hy2 : y < 2147483647) : PotAt (upd H p (.lst [.int x, .int y])) p := by
  refine ⟨x.toNat, y.toNat, ?_, by omega⟩
  rw [upd_same, Int.toNat_of_nonneg hx, Int.toNat_of_nonneg hy]
theorem ok_pot (T : Txt K mg) : CallF P w K mg base CX0 1 "_law_pot" ["_law_script", "_law_k"] (sp_pot K) := by
  refine callF_of T.d_law_pot sc_law_pot (fun _ _ _ _ _ _ us hl => match us, hl with | [_, _], _ => rfl) (fun vs H Q E h => ?_) (fun cdv A outer s H vs Q E hr h => ?_)
  · obtain ⟨a, ns, k, rfl, _⟩ := h
    rfl
  · obtain ⟨a, ns, k, rfl, hS, hk, q⟩ := h
    refine ⟨_, (pss_cons (ps_set (i := 2) sc_law_pot.nd rfl (.inl rfl) (pe_ifExp (pt_cmpR op_lt (pv 1) (pe_callB call_len_seq (by rfl) T.b_len bb_len (pa_cons (pv 0) pa_nil)) (nomark _)) (pe_callB call_abs (by rfl) T.b_abs bb_abs (pa_cons (pe_ix ix_list (pv 0) (pv 1) (fun _ _ => rfl)) pa_nil)) pe_int))
      (pss_one (ps_ret (pe_lst (pa_cons (pe_callB (call_max2 rfl) (by rfl) T.b_max bb_max (pa_cons pe_int (pa_cons (pe_op op_sub (pv 2) (pe_op op_pow pe_int pe_int)) pa_nil))) (pa_cons (pe_op op_mod (pe_callTy call_int1 (by rfl) T.b_int bt_int (pa_cons (pe_op op_add (pe_op op_add (pe_op op_mul (pe_op op_mod (pe_callTy call_int1 (by rfl) T.b_int bt_int (pa_cons (pv 2) pa_nil)) pe_int) pe_int) (pe_op op_mul pe_int (pv 1))) pe_int) pa_nil)) pe_int) pa_nil)))))), ?_⟩
    have rest : ∀ c : Int, 0 ≤ c → ∀ p, H p = none → PotAt (upd H p (.lst [.int (if c - 1000000000000000000 > 0 then c - 1000000000000000000 else 0), .int ((c % 2147483629 * 48271 + 60029 * k + 31) % 2147483647)])) p := by
      intro c hc p hp
      refine pot_new ?_ (Int.emod_nonneg _ (by decide)) (Int.emod_lt_of_pos _ (by decide))
      split <;> omega
    have mb : ∀ c : Int, 0 ≤ c % 2147483629 ∧ c % 2147483629 < 2147483629 := fun c => ⟨Int.emod_nonneg _ (by decide), Int.emod_lt_of_pos _ (by decide)⟩
    refine ⟨_, rfl, _, rfl, a, _, rfl, .inl hS, _, _, rfl, rfl, _, rfl, ite2 (fun e => ?_) (fun e => ?_)⟩
    · have hlt : k < ns.length := by
        have h1 := of_decide_eq_true e
        rw [List.length_map] at h1
        omega
      have g : (ns.map V.int)[k]? = some (.int ns[k]) := by
        rw [List.getElem?_map, List.getElem?_eq_getElem hlt]
        rfl
      refine ⟨_, rfl, _, rfl, a, _, k, _, rfl, rfl, hS, atI_nat (j := k) g, _, rfl, ?_⟩
      have hc : 0 ≤ (if ns[k] < 0 then -ns[k] else ns[k]) := by split <;> omega
      generalize (if ns[k] < 0 then -ns[k] else ns[k]) = c at hc ⊢
      refine ⟨_, rfl, 10, 18, rfl, rfl, ⟨by decide, by decide, by decide⟩, _, _, rfl, rfl, _, _, rfl, ?_⟩
      refine ⟨_, rfl, .inl ⟨_, rfl, _, _, rfl, rfl, (by show (0 : Int) < 2147483629; decide), _, _, rfl, rfl, .inr ⟨by decide, by decide⟩, _, rfl, _, _, rfl, rfl, .inl ⟨by decide, by decide⟩, _, _, rfl, rfl, _, _, rfl, rfl, .inl ⟨_, rfl, _, _, rfl, rfl, (by show (0 : Int) < 2147483647; decide), ?_⟩⟩⟩
      exact ⟨by show 2 ≤ sizeLine; decide, fun p hp => q p _ (same_upd hp) hp (rest c hc p hp)⟩
    · have hc : (0 : Int) ≤ 0 := Int.le_refl 0
      refine ⟨_, rfl, 10, 18, rfl, rfl, ⟨by decide, by decide, by decide⟩, _, _, rfl, rfl, _, _, rfl, ?_⟩
      refine ⟨_, rfl, .inl ⟨_, rfl, _, _, rfl, rfl, (by show (0 : Int) < 2147483629; decide), _, _, rfl, rfl, .inr ⟨by decide, by decide⟩, _, rfl, _, _, rfl, rfl, .inl ⟨by decide, by decide⟩, _, _, rfl, rfl, _, _, rfl, rfl, .inl ⟨_, rfl, _, _, rfl, rfl, (by show (0 : Int) < 2147483647; decide), ?_⟩⟩⟩
      exact ⟨by show 2 ≤ sizeLine; decide, fun p hp => q p _ (same_upd hp) hp (rest 0 hc p hp)⟩
def sp_draw : Sp := fun vs H Q _ => ∃ (p : Addr) (m : Nat), vs = [.ref p, .int m] ∧ PotAt H p ∧ 0 < m ∧ m < 2 ^ 62 ∧
  ∀ (d : Nat) H', d < m → PotAt H' p → Keep p H H' → Q (.int d) H'
theorem sc_law_draw : FnScope ["_law_pot_here", "_law_many", "_law_digit"] ["_law_pot_here", "_law_many"] (defScope (top 23)) := ⟨rfl, rfl, rfl, by decide +kernel, rfl, by decide +kernel, by decide +kernel⟩
theorem ok_draw (T : Txt K mg) : CallF P w K mg base CX0 1 "_law_draw" ["_law_pot_here", "_law_many"] sp_draw := by
  refine callF_of T.d_law_draw sc_law_draw (fun _ _ _ _ _ _ us hl => match us, hl with | [_, _], _ => rfl) (fun vs H Q E h => ?_) (fun cdv A outer s H vs Q E hr h => ?_)
  · obtain ⟨p, m, rfl, _⟩ := h
    rfl
  · obtain ⟨p, m, rfl, ⟨x, y, hp, hy⟩, m0, m1, q⟩ := h
    refine ⟨_, (pss_cons (ps_if (pt_cmpR op_gt (pe_ix ix_list (pv 0) pe_int (fun _ _ => rfl)) pe_int (nomark _))
          (pss_cons (ps_asg (pe_callB call_divmodW (by rfl) T.b_divmod bb_divmod (pa_cons (pe_ix ix_list (pv 0) pe_int (fun _ _ => rfl)) (pa_cons (pv 1) pa_nil))) (pg_tup (by rfl) (pgs_cons (pg_sub (pv 0) pe_int set_list) (pgs_cons (pg_name (i := 2) sc_law_draw.nd rfl (.inl rfl)) pgs_nil))))
          (pss_one (ps_ret (pv 2))))
          pss_nil)
      (pss_cons (ps_asg (pe_op op_mod (pe_callTy call_int1 (by rfl) T.b_int bt_int (pa_cons (pe_op op_add (pe_op op_mul (pe_ix ix_list (pv 0) pe_int (fun _ _ => rfl)) pe_int) pe_int) pa_nil)) pe_int) (pg_sub (pv 0) pe_int set_list))
      (pss_one (ps_ret (pe_op op_mod (pe_callTy call_int1 (by rfl) T.b_int bt_int (pa_cons (pe_op op_fdiv (pe_op op_mod (pe_callTy call_int1 (by rfl) T.b_int bt_int (pa_cons (pe_op op_mul (pe_ix ix_list (pv 0) pe_int (fun _ _ => rfl)) (pe_ix ix_list (pv 0) pe_int (fun _ _ => rfl))) pa_nil)) pe_int) pe_int) pa_nil)) (pv 1)))))), ?_⟩
    have L0 : SqL K H p [.int x, .int y] := .inl (.inl hp)
    refine ⟨_, rfl, p, _, 0, .int x, rfl, rfl, L0, atI_nat (j := 0) rfl, _, _, rfl, rfl, _, rfl, ite2 (fun e => ?_) (fun e => ?_)⟩
    · refine ⟨_, rfl, p, _, 0, .int x, rfl, rfl, L0, atI_nat (j := 0) rfl, _, rfl, x, m, rfl, ⟨by omega, no_pylong (by omega) (by omega)⟩, fun t ht => ?_⟩
      have hp2 : (upd H t (.tup [.int ((x : Int) / m), .int ((x : Int) % m)])) p = some (.lst [.int x, .int y]) := by
        rw [upd_ne (ne_of_none hp ht)]
        exact hp
      refine ⟨t, _, rfl, .inl (.inl upd_same), rfl, _, _, rfl, _, rfl, p, _, 0, 0, rfl, rfl, hp2, rfl, _, _, rfl, rfl, _, rfl, ?_⟩
      have e1 : (x : Int) % m = ((x % m : Nat) : Int) := (Int.natCast_emod x m).symm
      have e2 : (x : Int) / m = ((x / m : Nat) : Int) := (Int.natCast_ediv x m).symm
      rw [e1, e2]
      refine q (x % m) _ (Nat.mod_lt _ m0) ⟨x / m, y, upd_same, hy⟩ ?_
      exact (same_keep (same_upd ht)).trans keep_upd
    · have hyb : (y : Int) < 2147483647 := by omega
      refine ⟨_, rfl, p, _, 1, .int y, rfl, rfl, L0, atI_nat (j := 1) rfl, _, _, rfl, rfl, .inr ⟨by decide, by decide⟩, _, _, rfl, rfl, .inl ⟨_, rfl, _, _, rfl, rfl, (by show (0 : Int) < 2147483629; decide), ?_⟩⟩
      refine ⟨_, rfl, p, _, 1, 1, rfl, rfl, hp, rfl, ?_⟩
      have z0 : 0 ≤ ((y : Int) * 39373 + 12227) % 2147483629 := Int.emod_nonneg _ (by decide)
      have z1 : ((y : Int) * 39373 + 12227) % 2147483629 < 2147483629 := Int.emod_lt_of_pos _ (by decide)
      obtain ⟨z, ez⟩ : ∃ z : Int, ((y : Int) * 39373 + 12227) % 2147483629 = z := ⟨_, rfl⟩
      dsimp only
      rw [ez] at z0 z1 ⊢
      have L1 : SqL K (upd H p (.lst [.int x, .int z])) p [.int x, .int z] := .inl (.inl upd_same)
      refine ⟨_, rfl, p, _, 1, .int z, rfl, rfl, L1, atI_nat (j := 1) rfl, _, rfl, p, _, 1, .int z, rfl, rfl, L1, atI_nat (j := 1) rfl, z, z, rfl, rfl, .inl ⟨by omega, by omega⟩, .inl ⟨_, rfl, _, _, rfl, rfl, (by show (0 : Int) < 2147483563; decide), _, _, rfl, rfl, ⟨by decide, by decide⟩, .inl ⟨_, rfl, _, rfl, _, _, rfl, rfl, (by omega), ?_⟩⟩⟩
      have d0 : 0 ≤ (z * z % 2147483563 / 13) % (m : Int) := Int.emod_nonneg _ (by omega)
      have d1 : (z * z % 2147483563 / 13) % (m : Int) < m := Int.emod_lt_of_pos _ (by omega)
      have q2 := q ((z * z % 2147483563 / 13) % (m : Int)).toNat (upd H p (.lst [.int x, .int z])) (by omega) (by
        refine ⟨x, z.toNat, ?_, by omega⟩
        rw [upd_same, Int.toNat_of_nonneg z0]) keep_upd
      rw [Int.toNat_of_nonneg d0] at q2
      exact q2
def sp_pick (K : PySem.W.Frag) : Sp := fun vs H Q _ => ∃ (p a : Addr) (xs : List V), vs = [.ref p, .ref a] ∧ PotAt H p ∧ SqL K H a xs ∧ a ≠ p ∧ 0 < xs.length ∧ xs.length < 1000 ∧
  ∀ x H', x ∈ xs → PotAt H' p → Keep p H H' → Q x H'
theorem sc_law_pick : FnScope ["_law_pot_here", "_law_some"] ["_law_pot_here", "_law_some"] (defScope (top 24)) := ⟨rfl, rfl, rfl, by decide +kernel, rfl, by decide +kernel, by decide +kernel⟩
theorem ok_pick (T : Txt K mg) (C_law_draw : CallF P w K mg base CX0 1 "_law_draw" ["_law_pot_here", "_law_many"] sp_draw) : CallF P w K mg base CX0 2 "_law_pick" ["_law_pot_here", "_law_some"] (sp_pick K) := by
  refine callF_of T.d_law_pick sc_law_pick (fun _ _ _ _ _ _ us hl => match us, hl with | [_, _], _ => rfl) (fun vs H Q E h => ?_) (fun cdv A outer s H vs Q E hr h => ?_)
  · obtain ⟨p, a, xs, rfl, _⟩ := h
    rfl
  · obtain ⟨p, a, xs, rfl, hp, hS, ne, l0, l1, q⟩ := h
    refine ⟨_, (pss_one (ps_ret (pe_ix ix_list (pv 1) (pe_f C_law_draw (hr.mono (by decide)) (by rfl) pass0 (pa_cons (pv 0) (pa_cons (pe_callB call_len_seq (by rfl) T.b_len bb_len (pa_cons (pv 1) pa_nil)) pa_nil))) (fun _ _ => rfl)))), ?_⟩
    refine ⟨_, rfl, _, rfl, _, rfl, a, _, rfl, .inl hS, p, xs.length, rfl, hp, l0, by omega, fun d H' hd hp' kp => ?_⟩
    exact ⟨a, xs, d, _, rfl, rfl, kp.seq hS ne, atI_nat (j := d) (List.getElem?_eq_getElem hd), q _ H' (List.getElem_mem hd) hp' kp⟩
end
end K11

set_option maxHeartbeats 4000000
namespace K11
open PySem PySem.Spec PyProof.Rows L2 Bx
section
variable {P : Program} {w : World} {K : PySem.W.Frag} {mg : Str → Option Value} {base : Heap}
theorem pot_same {H H' : Hp} {p : Addr} (h : PotAt H p) (s : Same H H') : PotAt H' p := by
  obtain ⟨a, b, e, l⟩ := h
  exact ⟨a, b, s _ _ e, l⟩
theorem pot_ne {H : Hp} {p q : Addr} (h : PotAt H p) (n : H q = none) : p ≠ q := by
  obtain ⟨a, b, e, l⟩ := h
  exact ne_of_none e n
theorem pot_put {H : Hp} {p q : Addr} {o : HO} (h : PotAt H p) (n : q ≠ p) : PotAt (upd H q o) p := by
  obtain ⟨a, b, e, l⟩ := h
  exact ⟨a, b, by rw [upd_ne (Ne.symm n)]; exact e, l⟩
theorem keep_free {p D : Addr} {H H' : Hp} (k : Keep p H H') (h : PotAt H' p) (n : H' D = none) : H D = none := by
  cases e : H D with
  | none => rfl
  | some o =>
    rw [k D o e (Ne.symm (pot_ne h n))] at n
    cases n
theorem keep_put {p D : Addr} {H H' : Hp} {o : HO} (k : Keep p H H') (n : H D = none) : Keep p H (upd H' D o) := fun b x e nb => by
  rw [upd_ne (ne_of_none e n)]
  exact k b x e nb
theorem keep_new {p D : Addr} {H H' : Hp} {o : HO} (k : Keep p H H') (n : H' D = none) : Keep p H (upd H' D o) := k.trans (same_keep (same_upd n))
theorem nats_lt {fs : List Nat} {b : Nat} {j : Nat} (h : ∀ b ∈ fs, b < 2) (hb : b < 2) : ∀ c ∈ fs.set j b, c < 2 := fun c hc => by
  rcases List.mem_or_eq_of_mem_set hc with z | z
  · exact h c z
  · rw [z]
    exact hb
theorem nats_set (fs : List Nat) (j b : Nat) : (nats fs).set j (.int b) = nats (fs.set j b) := by
  simp [nats, List.map_set]
theorem ixN_nat {n j : Nat} (h : j < n) : ixN n (j : Int) = some j := by
  unfold ixN
  rw [if_pos (by omega), if_pos (by omega)]
  simp
theorem rep_nats (n b : Nat) : (List.replicate n ([.int (b : Int)] : List V)).flatten = nats (List.replicate n b) := by
  induction n with
  | zero => rfl
  | succ n ih =>
    rw [List.replicate_succ, List.flatten_cons, ih]
    rfl
def sp_bits : Sp := fun vs H Q _ => ∃ p : Addr, vs = [.ref p] ∧ PotAt H p ∧
  ∀ (q : Addr) (fs : List Nat) H', (∀ b ∈ fs, b < 2) → fs.length ≤ 80 → PotAt H' p → Keep p H H' → H q = none → H' q = some (.lst (nats fs)) → Q (.ref q) H'
theorem sc_law_bits : FnScope ["_law_pot_here", "_law_many", "_law_way", "_law_flags", "_law_bit", "_law_turn"] ["_law_pot_here"] (defScope (top 25)) := ⟨rfl, rfl, rfl, by decide +kernel, rfl, by decide +kernel, by decide +kernel⟩
theorem many_of {x : V} {d : Nat} (hd : d < 81) (h : x ∈ ([.int 0, .int 1, .int 2, .int 3, .int 8, .int 40, .int 79, .int 80, .int (d : Int)] : List V)) : ∃ m : Nat, x = .int m ∧ m ≤ 80 := by
  simp only [List.mem_cons, List.not_mem_nil, or_false] at h
  rcases h with rfl | rfl | rfl | rfl | rfl | rfl | rfl | rfl | rfl
  · exact ⟨0, rfl, by decide⟩
  · exact ⟨1, rfl, by decide⟩
  · exact ⟨2, rfl, by decide⟩
  · exact ⟨3, rfl, by decide⟩
  · exact ⟨8, rfl, by decide⟩
  · exact ⟨40, rfl, by decide⟩
  · exact ⟨79, rfl, by decide⟩
  · exact ⟨80, rfl, by decide⟩
  · exact ⟨d, rfl, by omega⟩
theorem ok_bits (T : Txt K mg) (C_law_draw : CallF P w K mg base CX0 1 "_law_draw" ["_law_pot_here", "_law_many"] sp_draw) (C_law_pick : CallF P w K mg base CX0 2 "_law_pick" ["_law_pot_here", "_law_some"] (sp_pick K)) :
    CallF P w K mg base CX0 3 "_law_bits" ["_law_pot_here"] sp_bits := by
  refine callF_of T.d_law_bits sc_law_bits (fun _ _ _ _ _ _ us hl => match us, hl with | [_], _ => rfl) (fun vs H Q E h => ?_) (fun cdv A outer s H vs Q E hr h => ?_)
  · obtain ⟨p, rfl, _⟩ := h
    rfl
  · obtain ⟨p, rfl, hp, q⟩ := h
    refine ⟨_, (pss_cons (ps_set (i := 1) sc_law_bits.nd rfl (.inl rfl) (pe_f C_law_pick (hr.mono (by decide)) (by rfl) pass0 (pa_cons (pv 0) (pa_cons (pe_lst (pa_cons pe_int (pa_cons pe_int (pa_cons pe_int (pa_cons pe_int (pa_cons pe_int (pa_cons pe_int (pa_cons pe_int (pa_cons pe_int (pa_cons (pe_f C_law_draw (hr.mono (by decide)) (by rfl) pass0 (pa_cons (pv 0) (pa_cons pe_int pa_nil))) pa_nil)))))))))) pa_nil))))
      (pss_cons (ps_set (i := 2) sc_law_bits.nd rfl (.inl rfl) (pe_f C_law_draw (hr.mono (by decide)) (by rfl) pass0 (pa_cons (pv 0) (pa_cons pe_int pa_nil))))
      (pss_cons (ps_if (pt_cmpR op_lt (pv 2) pe_int (nomark _))
          (pss_one (ps_ret (pe_op op_rep (pe_lst (pa_cons (pv 2) pa_nil)) (pv 1))))
          pss_nil)
      (pss_cons (ps_set (i := 3) sc_law_bits.nd rfl (.inl rfl) (pe_op op_rep (pe_lst (pa_cons pe_int pa_nil)) (pv 1)))
      (pss_cons (ps_if (pt_cmpR op_eq (pv 2) pe_int (nomark _))
          (pss_one (ps_ret (pe_lc (own := [("_law_bit", 4)]) (by rfl) sc_law_bits.nd (pi_list (pv 3)) (blkOk_by (own := [("_law_bit", 4)]) (N := ["_law_pot_here", "_law_many", "_law_way", "_law_flags", "_law_bit", "_law_turn"]) (sc := defScope (top 25)) (by decide +kernel)) (fun _ _ _ _ _ => (pg_name (i := 4) sc_law_bits.nd rfl (.inl rfl))) (fun _ _ _ _ _ => pts_nil) (fun _ _ _ _ _ => (pe_f C_law_draw (hr.mono (by decide)) (by rfl) pass0 (pa_cons (pv 0) (pa_cons pe_int pa_nil)))))))
          pss_nil)
      (pss_cons (ps_for PassesOwn.never rfl (pi_range1 (by rfl) T.b_range (pa_cons (pe_callB (call_min2 rfl) (by rfl) T.b_min bb_min (pa_cons (pv 1) (pa_cons (pe_op op_add pe_int (pe_f C_law_draw (hr.mono (by decide)) (by rfl) pass0 (pa_cons (pv 0) (pa_cons pe_int pa_nil)))) pa_nil))) pa_nil)) (pg_name (i := 5) sc_law_bits.nd rfl (.inl rfl))
          (pss_one (ps_asg pe_int (pg_sub (pv 3) (pe_f C_law_draw (hr.mono (by decide)) (by rfl) pass0 (pa_cons (pv 0) (pa_cons (pv 1) pa_nil))) set_list))))
      (pss_one (ps_ret (pv 3))))))))), ?_⟩
    -- many
    refine ⟨_, rfl, _, rfl, p, 81, rfl, hp, by decide, by decide, fun d H1 hd hp1 k1 => ?_⟩
    refine ⟨by show 9 ≤ sizeLine; decide, fun l hl => ?_⟩
    refine ⟨p, l, _, rfl, pot_same hp1 (same_upd hl), .inl (.inl upd_same), Ne.symm (pot_ne hp1 hl), by show 0 < 9; decide, by show 9 < 1000; decide, fun x H2 hx hp2 k2 => ?_⟩
    obtain ⟨m, rfl, hm⟩ := many_of hd hx
    have k2' : Keep p H H2 := (keep_new k1 hl).trans k2
    -- way
    refine ⟨_, rfl, p, 4, rfl, hp2, by decide, by decide, fun way H3 hw hp3 k3 => ?_⟩
    have k3' : Keep p H H3 := k2'.trans k3
    refine ⟨_, rfl, _, _, rfl, rfl, _, rfl, ite2 (fun e => ?_) (fun e => ?_)⟩
    · -- [way] * many
      have hw2 : way < 2 := by
        have := of_decide_eq_true e
        omega
      refine ⟨_, rfl, by show 1 ≤ sizeLine; decide, fun a ha => ?_⟩
      refine ⟨_, rfl, a, m, _, rfl, rfl, upd_same, by omega, by omega, ?_, fun b hb => ?_⟩
      · show 1 * (m : Int).toNat ≤ sizeLine
        rw [Int.toNat_natCast, Nat.one_mul]
        exact Nat.le_of_lt (small1000 (by omega))
      · rw [Int.toNat_natCast, rep_nats]
        have kk : Keep p H (upd H3 a (.lst [.int way])) := keep_new k3' ha
        have pp := pot_same hp3 (same_upd (o := .lst [.int way]) ha)
        exact q b (List.replicate m way) _ (fun c hc => by rw [List.eq_of_mem_replicate hc]; exact hw2) (by rw [List.length_replicate]; exact hm)
          (pot_same pp (same_upd hb)) (keep_new kk hb) (keep_free kk pp hb) upd_same
    · -- flags = [0] * many
      refine ⟨by show 1 ≤ sizeLine; decide, fun a ha => ?_⟩
      refine ⟨_, rfl, a, m, _, rfl, rfl, upd_same, by omega, by omega, ?_, fun l2 hl2 => ?_⟩
      · show 1 * (m : Int).toNat ≤ sizeLine
        rw [Int.toNat_natCast, Nat.one_mul]
        exact Nat.le_of_lt (small1000 (by omega))
      rw [Int.toNat_natCast, show ([.int 0] : List V) = [.int ((0 : Nat) : Int)] from rfl, rep_nats]
      have kk : Keep p H (upd H3 a (.lst [.int ((0 : Nat) : Int)])) := keep_new k3' ha
      have pp := pot_same hp3 (same_upd (o := .lst [.int ((0 : Nat) : Int)]) ha)
      have nl2 : H l2 = none := keep_free kk pp hl2
      have k4 := keep_new (o := .lst (nats (List.replicate m 0))) kk hl2
      have p4 := pot_same pp (same_upd (o := .lst (nats (List.replicate m 0))) hl2)
      have h4 : (upd (upd H3 a (.lst [.int ((0 : Nat) : Int)])) l2 (.lst (nats (List.replicate m 0)))) l2 = some (.lst (nats (List.replicate m 0))) := upd_same
      generalize (upd (upd H3 a (.lst [.int ((0 : Nat) : Int)])) l2 (.lst (nats (List.replicate m 0)))) = H4 at k4 p4 h4 ⊢
      refine ⟨_, rfl, rfl, _, rfl, ite2 (fun e3 => ?_) (fun e3 => ?_)⟩
      · -- draws
        refine ⟨_, rfl, l2, rfl, ⟨_, .inl (.inl h4)⟩, fun D hD => ?_⟩
        have nD : H D = none := keep_free k4 p4 hD
        have neD : l2 ≠ D := ne_of_none h4 hD
        have nDp : D ≠ p := Ne.symm (pot_ne p4 hD)
        refine lc_list (K := K) (a := l2) (xs := nats (List.replicate m 0)) (fun i H' => PotAt H' p ∧ Keep p H H' ∧ H' l2 = some (.lst (nats (List.replicate m 0))) ∧ ∃ ds : List Nat, ds.length = i ∧ (∀ b ∈ ds, b < 2) ∧ H' D = some (.lst (nats ds)))
          ⟨pot_same p4 (same_upd hD), keep_new k4 hD, by rw [upd_ne neD]; exact h4, [], rfl, (fun b hb => nomatch hb), upd_same⟩ (fun i H' _ z => .inl (.inl z.2.2.1)) ?_ ?_
        · rintro i x H' hx ⟨pa, ka, la, ds, e1, e2, da⟩
          have hil : i < m := by
            have := (List.getElem?_eq_some_iff.mp hx).1
            rw [List.length_map, List.length_replicate] at this
            exact this
          refine ⟨rfl, _, rfl, p, 2, rfl, pa, by decide, by decide, fun d2 H5 hd2 p5 k5 => ?_⟩
          have d5 := k5 D _ da nDp
          refine ⟨_, d5, ?_, pot_put p5 nDp, keep_put (ka.trans k5) nD, ?_, ds ++ [d2], ?_, ?_, ?_⟩
          · rw [List.length_map]
            exact small1000 (by omega)
          · rw [upd_ne neD]
            refine k5 _ _ la ?_
            intro z
            subst z
            obtain ⟨_, _, z2, _⟩ := hp
            rw [nl2] at z2
            cases z2
          · rw [List.length_append, e1]
            rfl
          · intro b hb
            rcases List.mem_append.mp hb with z | z
            · exact e2 b z
            · rw [List.mem_singleton.mp z]
              exact hd2
          · rw [upd_same]
            simp [nats]
        · rintro H' ⟨pa, ka, la, ds, e1, e2, da⟩
          have hl : ds.length ≤ 80 := by
            rw [e1, List.length_map, List.length_replicate]
            exact hm
          exact q D ds H' e2 hl pa ka nD da
      · -- single ones
        have nlp : l2 ≠ p := fun z => by
          subst z
          obtain ⟨_, _, z2, _⟩ := hp
          rw [nl2] at z2
          cases z2
        refine ⟨_, rfl, _, rfl, p, 3, rfl, p4, by decide, by decide, fun d2 H5 hd2 p5 k5 => ?_⟩
        refine ⟨_, _, rfl, rfl, _, _, rfl, ?_⟩
        have hj : ∃ j : Nat, (if (1 : Int) + (d2 : Int) < (m : Int) then (1 : Int) + (d2 : Int) else (m : Int)) = (j : Int) ∧ j ≤ m := by
          split
          · exact ⟨1 + d2, by omega, by omega⟩
          · exact ⟨m, rfl, Nat.le_refl _⟩
        obtain ⟨j, ej, hjm⟩ := hj
        show ∃ j : Int, _ ∧ _
        rw [ej]
        refine ⟨j, rfl, by omega, by omega, ?_⟩
        rw [Int.toNat_natCast]
        refine for_range (lo := 0) (n := j) (fun i σ H' => ∃ (fs : List Nat) (y4 y5 : Option V), σ = [some (.ref p), some (.int m), some (.int way), some (.ref l2), y4, y5] ∧ PotAt H' p ∧ Keep p H H' ∧ H' l2 = some (.lst (nats fs)) ∧ fs.length = m ∧ ∀ b ∈ fs, b < 2)
          ⟨List.replicate m 0, none, none, rfl, p5, k4.trans k5, k5 _ _ h4 nlp, List.length_replicate, fun c hc => by rw [List.eq_of_mem_replicate hc]; decide⟩ ?_ ?_
        · rintro i σ H' hi ⟨fs, y4, y5, rfl, pa, ka, la, fl, fb⟩
          refine ⟨_, rfl, _, rfl, _, rfl, p, m, rfl, pa, by omega, by omega, fun d3 H6 hd3 p6 k6 => ?_⟩
          refine ⟨l2, _, d3, d3, rfl, rfl, k6 _ _ la nlp, ixN_nat (by rw [List.length_map, fl]; exact hd3), fs.set d3 1, _, _, rfl, pot_put p6 nlp, keep_put (ka.trans k6) nl2, ?_, ?_, nats_lt fb (by decide)⟩
          · rw [upd_same]
            exact congrArg (fun z => some (HO.lst z)) (nats_set fs d3 1)
          · rw [List.length_set]
            exact fl
        · rintro σ H' ⟨fs, y4, y5, rfl, pa, ka, la, fl, fb⟩
          exact ⟨_, rfl, q l2 fs H' fb (by omega) pa ka nl2 la⟩
def sp_number (K : PySem.W.Frag) : Sp := fun vs H Q _ => ∃ (a : Addr) (fs : List Nat), vs = [.ref a] ∧ SqL K H a (nats fs) ∧ (∀ b ∈ fs, b < 2) ∧ fs.length ≤ 1000 ∧ Q (.int (numB fs : Nat)) H
theorem sc_law_number : FnScope ["_law_flags", "_law_found", "_law_bit"] ["_law_flags"] (defScope (top 26)) := ⟨rfl, rfl, rfl, by decide +kernel, rfl, by decide +kernel, by decide +kernel⟩
theorem numB_rev (fs : List Nat) (i : Nat) (h : i < fs.length) {x : Nat} (e : fs[fs.length - 1 - i]? = some x) : numB (fs.drop (fs.length - (i + 1))) = x + 2 * numB (fs.drop (fs.length - i)) := by
  have h1 : fs.length - (i + 1) < fs.length := by omega
  rw [List.drop_eq_getElem_cons h1]
  have e2 : fs[fs.length - (i + 1)] = x := by
    have e3 : fs[fs.length - (i + 1)]? = some x := by
      rw [show fs.length - (i + 1) = fs.length - 1 - i by omega]
      exact e
    rw [List.getElem?_eq_getElem h1] at e3
    exact Option.some.inj e3
  rw [e2, show fs.length - (i + 1) + 1 = fs.length - i by omega]
  rfl
theorem ok_number (T : Txt K mg) : CallF P w K mg base CX0 1 "_law_number" ["_law_flags"] (sp_number K) := by
  refine callF_of T.d_law_number sc_law_number (fun _ _ _ _ _ _ us hl => match us, hl with | [_], _ => rfl) (fun vs H Q E h => ?_) (fun cdv A outer s H vs Q E hr h => ?_)
  · obtain ⟨a, fs, rfl, _⟩ := h
    rfl
  · obtain ⟨a, fs, rfl, hS, hb, hl, q⟩ := h
    refine ⟨_, (pss_cons (ps_set (i := 1) sc_law_number.nd rfl (.inl rfl) pe_int)
      (pss_cons (ps_for PassesOwn.never rfl (pi_reversed (by rfl) T.b_reversed (pa_cons (pv 0) pa_nil)) (pg_name (i := 2) sc_law_number.nd rfl (.inl rfl))
          (pss_one (ps_set (i := 1) sc_law_number.nd rfl (.inl rfl) (pe_op op_add (pe_op op_mul pe_int (pv 1)) (pv 2)))))
      (pss_one (ps_ret (pv 1))))), ?_⟩
    refine ⟨_, rfl, a, _, rfl, hS, for_it (walk_rev (xs := nats fs)) (fun i σ H2 => ∃ y, σ = [some (.ref a), some (.int (numB (fs.drop (fs.length - i)) : Nat)), y] ∧ H2 = H)
      ⟨none, by rw [Nat.sub_zero, List.drop_length]; rfl, rfl⟩ (fun i σ H2 _ ⟨_, _, e⟩ => by rw [e]; exact hS) ?_ ?_⟩
    · rintro i x σ H2 H3 hi ⟨y, rfl, rfl⟩ ⟨rfl, hx⟩
      rw [List.length_map] at hi hx
      obtain ⟨b, eb, rfl⟩ := nats_at hx
      refine ⟨_, rfl, 2, _, rfl, rfl, .inl ⟨by decide, by decide⟩, _, rfl, _, _, rfl, rfl, some (.int b), ?_, rfl⟩
      rw [numB_rev fs i hi eb]
      have e : ((b + 2 * numB (fs.drop (fs.length - i)) : Nat) : Int) = 2 * (numB (fs.drop (fs.length - i)) : Nat) + (b : Int) := by omega
      rw [e]
      rfl
    · rintro σ H2 ⟨y, rfl, rfl⟩
      have e : fs.drop (fs.length - (nats fs).length) = fs := by
        rw [List.length_map, Nat.sub_self]
        rfl
      rw [e]
      exact ⟨_, rfl, q⟩
end
end K11

set_option maxHeartbeats 4000000
namespace K11
open PySem PySem.Spec PyProof.Rows L2 Bx
section
variable {P : Program} {w : World} {K : PySem.W.Frag} {mg : Str → Option Value} {base : Heap}
def sp_turned : Sp := fun vs H Q _ => ∃ (p a : Addr) (ks : List Nat), vs = [.ref p, .ref a] ∧ PotAt H p ∧ H a = some (.lst (nats ks)) ∧ a ≠ p ∧ ks.length ≤ 500 ∧
  ∀ (q : Addr) (zs : List Nat) H', zs.Perm ks → PotAt H' p → Keep p H H' → H q = none → H' q = some (.lst (nats zs)) → Q (.ref q) H'
theorem sc_law_turned : FnScope ["_law_pot_here", "_law_some", "_law_left", "_law_found", "_law_turn"] ["_law_pot_here", "_law_some"] (defScope (top 27)) := ⟨rfl, rfl, rfl, by decide +kernel, rfl, by decide +kernel, by decide +kernel⟩
theorem perm_erase : ∀ (ls : List Nat) (d x : Nat), ls[d]? = some x → ls.Perm (x :: ls.eraseIdx d)
  | [], _, _, h => nomatch h
  | y :: r, 0, x, h => by
    obtain rfl : y = x := Option.some.inj h
    exact List.Perm.refl _
  | y :: r, d + 1, x, h => by
    have ih := perm_erase r d x h
    exact (List.Perm.cons y ih).trans (List.Perm.swap x y _)
theorem nats_erase (ls : List Nat) (d : Nat) : (nats ls).eraseIdx d = nats (ls.eraseIdx d) := by
  induction ls generalizing d with
  | nil => rfl
  | cons y r ih =>
    cases d with
    | zero => rfl
    | succ d => exact congrArg (V.int (y : Int) :: ·) (ih d)
theorem seqIndex_nat {n d : Nat} (h : d < n) : seqIndex? (d : Int) n = some d := (ixN_seq (ixN_nat h)).1
theorem ok_turned (T : Txt K mg) (C_law_draw : CallF P w K mg base CX0 1 "_law_draw" ["_law_pot_here", "_law_many"] sp_draw) : CallF P w K mg base CX0 2 "_law_turned" ["_law_pot_here", "_law_some"] sp_turned := by
  refine callF_of T.d_law_turned sc_law_turned (fun _ _ _ _ _ _ us hl => match us, hl with | [_, _], _ => rfl) (fun vs H Q E h => ?_) (fun cdv A outer s H vs Q E hr h => ?_)
  · obtain ⟨p, a, ks, rfl, _⟩ := h
    rfl
  · obtain ⟨p, a, ks, rfl, hp, hA, nap, hl, q⟩ := h
    refine ⟨_, (pss_cons (ps_par (i := 2) (j := 3) (by rfl) sc_law_turned.nd rfl rfl (by decide) rfl rfl (pa_cons (pe_callTy call_list_of (by rfl) T.b_list bt_list (pa_cons (pv 1) pa_nil)) (pa_cons (pe_lst pa_nil) pa_nil)) (by rfl))
      (pss_cons (ps_for PassesOwn.never rfl (pi_range1 (by rfl) T.b_range (pa_cons (pe_callB call_len_seq (by rfl) T.b_len bb_len (pa_cons (pv 1) pa_nil)) pa_nil)) (pg_name (i := 4) sc_law_turned.nd rfl (.inl rfl))
          (pss_one (ps_expr (pe_bm PySem.F.plainAttrs_list PySem.F.slot_list_append PySem.F.type_list_append mt_append (pv 3) (pa_cons (pe_bm PySem.F.plainAttrs_list PySem.F.slot_list_pop PySem.F.type_list_pop mt_popAt (pv 2) (pa_cons (pe_f C_law_draw (hr.mono (by decide)) (by rfl) pass0 (pa_cons (pv 0) (pa_cons (pe_callB call_len_seq (by rfl) T.b_len bb_len (pa_cons (pv 2) pa_nil)) pa_nil))) pa_nil)) pa_nil)))))
      (pss_one (ps_ret (pv 3))))), ?_⟩
    refine ⟨_, rfl, a, _, rfl, .inl (.inl (.inl hA)), fun l nl => ⟨Nat.zero_le _, fun f nf => ⟨_, _, rfl, ?_⟩⟩⟩
    have nlf : l ≠ f := ne_of_none (upd_same (H := H) (a := l) (o := .lst (nats ks))) nf
    have nf0 : H f = none := (same_upd (o := .lst (nats ks)) nl).free nf
    have nlp : l ≠ p := Ne.symm (pot_ne hp nl)
    have nfp : f ≠ p := Ne.symm (pot_ne hp nf0)
    have s1 : Same H (upd (upd H l (.lst (nats ks))) f (.lst [])) := same_new (same_upd nl) nf
    refine ⟨_, rfl, a, _, rfl, .inl (.inl (.inl (s1 _ _ hA))), _, rfl, by omega, by rw [List.length_map]; omega, ?_⟩
    rw [List.length_map, Int.toNat_natCast]
    refine for_range (lo := 0) (n := ks.length) (fun i σ H' => ∃ (ls fs : List Nat) (y : Option V), σ = [some (.ref p), some (.ref a), some (.ref l), some (.ref f), y] ∧ PotAt H' p ∧ Keep p H H' ∧ H' l = some (.lst (nats ls)) ∧ H' f = some (.lst (nats fs)) ∧ ls.length + i = ks.length ∧ (fs ++ ls).Perm ks)
      ⟨ks, [], none, rfl, pot_same hp s1, same_keep s1, by rw [upd_ne nlf, upd_same], upd_same, by omega, List.Perm.refl _⟩ ?_ ?_
    · rintro i σ H' hi ⟨ls, fs, y, rfl, pa, ka, la, fa, el, pm⟩
      have ff : fs.length ≤ 500 := by
        have := pm.length_eq
        rw [List.length_append] at this
        omega
      refine ⟨_, rfl, .inl ⟨rfl, _, .inl (.inl fa)⟩, _, rfl, .inl ⟨rfl, _, .inl (.inl la)⟩, _, rfl, _, rfl, l, _, rfl, .inl (.inl (.inl la)), p, (nats ls).length, rfl, pa, by rw [List.length_map]; omega, by rw [List.length_map]; omega, fun d H2 hd' p2 k2 => ?_⟩
      · have hd : d < ls.length := by
          rw [List.length_map] at hd'
          exact hd'
        have la2 := k2 _ _ la nlp
        have fa2 := k2 _ _ fa nfp
        have e : ls[d]? = some ls[d] := List.getElem?_eq_getElem hd
        refine ⟨l, _, d, d, .int ls[d], rfl, rfl, la2, by omega, by omega, seqIndex_nat (by rw [List.length_map]; exact hd), by rw [List.getElem?_map, e]; rfl, ?_⟩
        have fa3 : (upd H2 l (.lst ((nats ls).eraseIdx d))) f = some (.lst (nats fs)) := by
          rw [upd_ne (Ne.symm nlf)]
          exact fa2
        refine ⟨f, _, _, rfl, rfl, fa3, by rw [List.length_map]; exact small1000 (by omega), ls.eraseIdx d, fs ++ [ls[d]], _, rfl, pot_put (pot_put p2 nlp) nfp, keep_put (keep_put (ka.trans k2) nl) nf0, ?_, ?_, ?_, ?_⟩
        · rw [upd_ne nlf, upd_same, nats_erase]
        · rw [upd_same]
          simp [nats]
        · rw [List.length_eraseIdx, if_pos hd]
          omega
        · rw [List.append_assoc]
          exact (List.Perm.append_left fs (perm_erase ls d _ e).symm).trans pm
    · rintro σ H' ⟨ls, fs, y, rfl, pa, ka, la, fa, el, pm⟩
      have e0 : ls = [] := List.eq_nil_of_length_eq_zero (by omega)
      subst e0
      rw [List.append_nil] at pm
      exact ⟨_, rfl, q f fs H' pm pa ka nf0 fa⟩
end
end K11

set_option maxHeartbeats 4000000
namespace K11
open PySem PySem.Spec PyProof.Rows L2 Bx
section
variable {P : Program} {w : World} {K : PySem.W.Frag} {mg : Str → Option Value} {base : Heap}
def sp_lengths : Sp := fun vs H Q _ => ∃ (p : Addr) (n L : Nat), vs = [.ref p, .int n, .int L] ∧ PotAt H p ∧ n < 2 ^ 80 ∧ L ≤ 80 ∧ (∀ m, n < 2 ^ m ↔ L ≤ m) ∧
  ∀ H', PotAt H' p → Keep p H H' → Q (.bl true) H'
theorem sc_law_lengths_right : FnScope ["_law_pot_here", "_law_number_here", "_law_long", "_law_many", "_law_odd", "_law_told", "_law_thing"] ["_law_pot_here", "_law_number_here", "_law_long"] (defScope (top 28)) := ⟨rfl, rfl, rfl, by decide +kernel, rfl, by decide +kernel, by decide +kernel⟩
theorem int_of {x : V} {a b c d e f : Int} {i : Nat} (h : ([.int a, .int b, .int c, .int d, .int e, .int f] : List V)[i]? = some x) : ∃ v : Int, x = .int v := by
  have hm := List.mem_of_getElem? h
  simp only [List.mem_cons, List.not_mem_nil, or_false] at hm
  rcases hm with rfl | rfl | rfl | rfl | rfl | rfl <;> exact ⟨_, rfl⟩
theorem dec_word {n L m : Nat} (h : ∀ m, n < 2 ^ m ↔ L ≤ m) : decide ((0 : Int) ≤ (n : Int) ∧ (n : Int) < 2 ^ m) = decide ((L : Int) ≤ (m : Int)) := by
  have e : ((2 ^ m : Nat) : Int) = 2 ^ m := by
    rw [Int.natCast_pow]
    rfl
  have := h m
  rw [← e]
  refine decide_eq_decide.mpr ⟨fun z => ?_, fun z => ?_⟩
  · have h2 := z.2
    have h3 : n < 2 ^ m := Int.ofNat_lt.mp h2
    have := this.mp h3
    omega
  · have h3 : n < 2 ^ m := this.mpr (by omega)
    exact ⟨by omega, Int.ofNat_lt.mpr h3⟩
/-- none of these is a word -/
def Odd (K : PySem.W.Frag) (H : Hp) (v : V) : Prop := IsI K H v false ∨ ∃ i : Int, v = .int i ∧ i < 0
theorem ok_lengths (T : Txt K mg) (C_law_draw : CallF P w K mg base CX0 1 "_law_draw" ["_law_pot_here", "_law_many"] sp_draw) (C_is_word : CallF P w K mg base CX0 3 "is_word" ["value", "bits"] (sp_is_word K)) :
    CallG P w K mg base CX0 4 "_law_lengths_right" ["_law_pot_here", "_law_number_here", "_law_long"] sp_lengths := by
  refine callG_of T.d_law_lengths_right sc_law_lengths_right (fun _ _ _ _ _ _ us hl => match us, hl with | [_, _, _], _ => rfl) (fun vs H Q E h => ?_) (fun cdv A outer s H vs Q E hr gd h => ?_)
  · obtain ⟨p, n, L, rfl, _⟩ := h
    rfl
  · obtain ⟨p, n, L, rfl, hp, hn, hL, key, q⟩ := h
    refine ⟨_, (pss_cons (ps_for PassesOwn.never rfl (pi_list (pe_lst (pa_cons (pv 2) (pa_cons (pe_op op_add (pv 2) pe_int) (pa_cons pe_int (pa_cons pe_int (pa_cons (pe_op op_sub (pv 2) pe_int) (pa_cons (pe_f C_law_draw (hr.mono (by decide)) (by rfl) pass0 (pa_cons (pv 0) (pa_cons pe_int pa_nil))) pa_nil)))))))) (pg_name (i := 3) sc_law_lengths_right.nd rfl (.inl rfl))
          (pss_one (ps_if (PW.pt (pw_and (pt_chain op_le op_le pe_int (pv 3) pe_int) (pw_and1 (pt_cmpR op_ne (pe_callB (call_reprV gd hr.units) (by rfl) T.b_repr bb_repr (pa_cons (pe_f C_is_word (hr.mono (by decide)) (by rfl) pass0 (pa_cons (pv 1) (pa_cons (pv 3) pa_nil))) pa_nil)) (pe_callB (call_reprV gd hr.units) (by rfl) T.b_repr bb_repr (pa_cons (pe_cmpR op_ge (pv 3) (pv 2) (nomark _)) pa_nil)) (nomark _)))))
            (pss_one (ps_ret pe_bl))
            pss_nil)))
      (pss_cons (ps_set (i := 4) sc_law_lengths_right.nd rfl (.inl rfl) (pe_lst (pa_cons pe_non (pa_cons pe_bl (pa_cons pe_bl (pa_cons (pe_un un_neg pe_int) (pa_cons (pe_op op_sub (pe_un un_neg (pv 1)) pe_int) (pa_cons pe_str (pa_cons (pe_callTy call_str_int (by rfl) T.b_str bt_str (pa_cons (pv 1) pa_nil)) (pa_cons (pe_lst (pa_cons (pv 1) pa_nil)) (pa_cons (pe_tup (pa_cons (pv 1) pa_nil)) (pa_cons pe_dnewK (pa_cons (pe_lst (pa_cons pe_int pa_nil)) pa_nil)))))))))))))
      (pss_cons (ps_setLc (i := 5) (own := [("_law_thing", 6)]) (by rfl) sc_law_lengths_right.nd rfl rfl (sw_true rfl rfl rfl (by decide +kernel)) (pi_list (pv 4)) (blkOk_by (own := [("_law_thing", 6)]) (N := ["_law_pot_here", "_law_number_here", "_law_long", "_law_many", "_law_odd", "_law_told", "_law_thing"]) (sc := defScope (top 28)) (by decide +kernel)) (fun _ _ _ _ _ => (pg_name (i := 6) sc_law_lengths_right.nd rfl (.inl rfl))) (fun _ _ _ _ _ => pts_nil) (fun _ _ _ _ _ => (pe_f C_is_word (hr.mono (by decide)) (by rfl) pass0 (pa_cons (pv 6) (pa_cons pe_int pa_nil)))))
      (pss_one (ps_ret (pe_and (pe_cmpR op_eq (pe_callB (call_reprL gd hr.units) (by rfl) T.b_repr bb_repr (pa_cons (pv 5) pa_nil)) (pe_callB (call_reprL gd hr.units) (by rfl) T.b_repr bb_repr (pa_cons (pe_op op_rep (pe_lst (pa_cons pe_bl pa_nil)) (pe_callB call_len_seq (by rfl) T.b_len bb_len (pa_cons (pv 4) pa_nil))) pa_nil)) (nomark _)) (pe_one (pe_cmpR op_is_bl (pe_fk0 C_is_word T.d_is_word (hr.mono (by decide)) (by rfl) (fun _ F => kw2 (fun _ _ _ _ _ _ _ _ => rfl) F) pass0 (pk_cons (pv 2) (pk_cons (pv 1) pk_nil))) pe_bl (nomark _))))))))), ?_⟩
    refine ⟨_, rfl, _, rfl, _, _, rfl, rfl, _, rfl, _, _, rfl, rfl, _, rfl, p, 81, rfl, hp, by decide, by decide, fun d H1 hd p1 k1 => ?_⟩
    refine ⟨by show 6 ≤ sizeLine; decide, fun l nl => ?_⟩
    have p2 := pot_same p1 (same_upd (o := .lst [.int L, .int ((L : Int) + 1), .int 80, .int 0, .int ((L : Int) - 1), .int d]) nl)
    have k2 := keep_new (o := .lst [.int L, .int ((L : Int) + 1), .int 80, .int 0, .int ((L : Int) - 1), .int d]) k1 nl
    refine ⟨l, rfl, ⟨_, .inl (.inl upd_same)⟩, for_list (K := K) (a := l) (xs := [.int L, .int ((L : Int) + 1), .int 80, .int 0, .int ((L : Int) - 1), .int d]) (fun i σ H' => ∃ y, σ = [some (.ref p), some (.int n), some (.int L), y, none, none, none] ∧ PotAt H' p ∧ Keep p H H' ∧ H' l = some (.lst [.int L, .int ((L : Int) + 1), .int 80, .int 0, .int ((L : Int) - 1), .int d]))
      ⟨none, rfl, p2, k2, upd_same⟩ (fun i σ H' _ ⟨_, _, _, _, z⟩ => .inl (.inl z)) ?_ ?_⟩
    · rintro i x σ H' hx ⟨y, rfl, pa, ka, la⟩
      obtain ⟨v, rfl⟩ := int_of hx
      have fin : ∃ y, ([some (.ref p), some (.int n), some (.int L), some (.int v), none, none, none] : L2.St) = [some (.ref p), some (.int n), some (.int L), y, none, none, none] ∧ PotAt H' p ∧ Keep p H H' ∧ H' l = some (.lst [.int L, .int ((L : Int) + 1), .int 80, .int 0, .int ((L : Int) - 1), .int d]) :=
        ⟨_, rfl, pa, ka, la⟩
      refine ⟨_, rfl, _, _, rfl, rfl, _, rfl, ?_⟩
      by_cases h0 : 0 ≤ v
      · rw [decide_eq_true h0]
        refine iteT ⟨_, _, rfl, rfl, _, rfl, ?_⟩
        by_cases h8 : v ≤ 80
        · rw [decide_eq_true h8]
          obtain ⟨m, rfl⟩ := Int.eq_ofNat_of_zero_le h0
          refine iteT ⟨_, rfl, _, rfl, _, m, rfl, by omega, .inr ⟨n, rfl, ?_⟩⟩
          refine ⟨_, rfl, trivial, _, rfl, _, rfl, _, _, rfl, rfl, _, rfl, trivial, ?_⟩
          have e := dec_word (m := m) key
          rw [e]
          refine ⟨rfl, _, rfl, ?_⟩
          rw [decide_eq_true rfl]
          exact iteF fin
        · rw [decide_eq_false h8]
          exact iteF fin
      · rw [decide_eq_false h0]
        refine iteF ⟨_, rfl, ?_⟩
        exact iteF (iteF fin)
    · rintro σ H3 ⟨y, rfl, p3, k3, _⟩
      -- the odd values
      have e3 : (-(n : Int) - 1) < 0 := by omega
      have hlog : (n : Int).natAbs.log2 < 1920 := okV_nat (Nat.lt_of_lt_of_le hn (Nat.pow_le_pow_right (by decide) (by decide)))
      refine ⟨_, rfl, _, rfl, _, rfl, _, _, rfl, rfl, _, rfl, _, rfl, hlog, _, rfl, (by show 1 ≤ sizeLine; decide), fun a1 n1 => ⟨_, rfl, by show 1 ≤ sizeLine; decide, fun a2 n2 => ?_⟩⟩
      intro a3 n3
      refine ⟨by show 1 ≤ sizeLine; decide, fun a4 n4 => ⟨by show 11 ≤ sizeLine; decide, fun o no => ?_⟩⟩
      have h1 : (upd H3 a1 (.lst [.int n])) a1 = some (.lst [.int n]) := upd_same
      have s2 := same_upd (o := .tup [.int n]) n2
      have s3 := same_upd (o := .dK []) n3
      have s4 := same_upd (o := .lst [.int 1]) n4
      have s5 := same_upd (o := .lst [.non, .bl true, .bl false, .int (-1), .int (-(n : Int) - 1), .str "", .str (toString (n : Int)), .ref a1, .ref a2, .ref a3, .ref a4]) no
      have odd : ∀ v ∈ ([.non, .bl true, .bl false, .int (-1), .int (-(n : Int) - 1), .str "", .str (toString (n : Int)), .ref a1, .ref a2, .ref a3, .ref a4] : List V), Odd K (upd (upd (upd (upd (upd H3 a1 (.lst [.int n])) a2 (.tup [.int n])) a3 (.dK [])) a4 (.lst [.int 1])) o (.lst [.non, .bl true, .bl false, .int (-1), .int (-(n : Int) - 1), .str "", .str (toString (n : Int)), .ref a1, .ref a2, .ref a3, .ref a4])) v := by
        intro v hv
        simp only [List.mem_cons, List.not_mem_nil, or_false] at hv
        rcases hv with rfl | rfl | rfl | rfl | rfl | rfl | rfl | rfl | rfl | rfl | rfl
        · exact .inl isI_non
        · exact .inl (isI_bl _)
        · exact .inl (isI_bl _)
        · exact .inr ⟨_, rfl, by decide⟩
        · exact .inr ⟨_, rfl, e3⟩
        · exact .inl (isI_str _)
        · exact .inl (isI_str _)
        · exact .inl (isI_lst (s5 _ _ (s4 _ _ (s3 _ _ (s2 _ _ h1)))))
        · exact .inl (isI_tup (s5 _ _ (s4 _ _ (s3 _ _ upd_same))))
        · exact .inl (isI_dK (s5 _ _ (s4 _ _ upd_same)))
        · exact .inl (isI_lst (s5 _ _ upd_same))
      have sAll : Same H3 (upd (upd (upd (upd (upd H3 a1 (.lst [.int n])) a2 (.tup [.int n])) a3 (.dK [])) a4 (.lst [.int 1])) o (.lst [.non, .bl true, .bl false, .int (-1), .int (-(n : Int) - 1), .str "", .str (toString (n : Int)), .ref a1, .ref a2, .ref a3, .ref a4])) :=
        same_new (same_new (same_new (same_new (same_upd n1) n2) n3) n4) no
      have hO : (upd (upd (upd (upd (upd H3 a1 (.lst [.int n])) a2 (.tup [.int n])) a3 (.dK [])) a4 (.lst [.int 1])) o (.lst [.non, .bl true, .bl false, .int (-1), .int (-(n : Int) - 1), .str "", .str (toString (n : Int)), .ref a1, .ref a2, .ref a3, .ref a4])) o = some (.lst [.non, .bl true, .bl false, .int (-1), .int (-(n : Int) - 1), .str "", .str (toString (n : Int)), .ref a1, .ref a2, .ref a3, .ref a4]) := upd_same
      refine ⟨_, rfl, o, rfl, ⟨_, .inl (.inl hO)⟩, ?_⟩
      generalize (upd (upd (upd (upd (upd H3 a1 (.lst [.int n])) a2 (.tup [.int n])) a3 (.dK [])) a4 (.lst [.int 1])) o (.lst [.non, .bl true, .bl false, .int (-1), .int (-(n : Int) - 1), .str "", .str (toString (n : Int)), .ref a1, .ref a2, .ref a3, .ref a4])) = H4 at odd sAll hO ⊢
      intro D nD
      refine lc_list (K := K) (a := o) (xs := [.non, .bl true, .bl false, .int (-1), .int (-(n : Int) - 1), .str "", .str (toString (n : Int)), .ref a1, .ref a2, .ref a3, .ref a4]) (fun i H' => Same H4 H' ∧ H' D = some (.lst (List.replicate i (.bl false)))) ⟨same_upd nD, upd_same⟩ (fun i H' _ z => .inl (.inl (z.1 _ _ hO))) ?_ ?_
      · rintro i x H' hx ⟨sm, hd⟩
        have ox := odd x (List.mem_of_getElem? hx)
        have hil : i < 11 := (List.getElem?_eq_some_iff.mp hx).1
        have fin : ∃ acc, H' D = some (.lst acc) ∧ acc.length < sizeLine ∧ Same H4 (upd H' D (.lst (acc ++ [.bl false]))) ∧ (upd H' D (.lst (acc ++ [.bl false]))) D = some (.lst (List.replicate (i + 1) (.bl false))) := by
          refine ⟨_, hd, ?_, same_put sm nD, ?_⟩
          · rw [List.length_replicate]
            exact small1000 (by omega)
          · rw [upd_same, List.replicate_succ']
        refine ⟨rfl, _, rfl, _, 80, rfl, by decide, ?_⟩
        rcases ox with hI | ⟨z, rfl, hz⟩
        · refine .inl ⟨?_, fin⟩
          obtain ⟨t, b1, b2, ty, r⟩ := hI
          refine ⟨t, b1, b2, ?_, r⟩
          cases ty with
          | base b => exact .base (tyof_same sm b)
          | byt b => exact .byt b
          | set e => exact .set (sm _ _ e)
          | kList e c => exact .kList e c
          | kTuple e c => exact .kTuple e c
          | kDict e c => exact .kDict e c
          | fTuple e => exact .fTuple (sm _ _ e)
          | fDict e => exact .fDict (sm _ _ e)
        · refine .inr ⟨z, rfl, ?_⟩
          rw [decide_eq_false (fun y => by omega)]
          exact fin
      · rintro H5 ⟨s5', hd⟩
        refine ⟨_, rfl, D, _, rfl, .inl (.inl hd), ?_, (by rw [List.length_replicate]; show 11 ≤ 1000; decide), (by show 1 ≤ sizeLine; decide), fun b1 m1 => ?_⟩
        · intro v hv
          rw [List.eq_of_mem_replicate hv]
          exact trivial
        · have hO5 := s5' _ _ hO
          refine ⟨_, rfl, o, _, rfl, .inl (.inl (.inl (same_upd m1 _ _ hO5))), b1, 11, _, rfl, rfl, upd_same, by decide, by decide, by decide, fun b2 m2 => ?_⟩
          refine ⟨b2, _, rfl, .inl (.inl upd_same), ?_, by decide, rfl, ?_⟩
          · intro v hv
            have : v = .bl false := by simpa using hv
            rw [this]
            exact trivial
          · have e : reprL (List.replicate 11 (.bl false)) = reprL (List.replicate (11 : Int).toNat ([.bl false] : List V)).flatten := rfl
            refine ⟨true, congrArg V.bl (decide_eq_true (congrArg V.str e)), iteT ⟨_, rfl, _, rfl, rfl, _, L, rfl, hL, .inr ⟨n, rfl, ?_⟩⟩⟩
            rw [dec_word key, decide_eq_true (Int.le_refl _)]
            refine ⟨true, true, rfl, rfl, ?_⟩
            have sF : Same H3 (upd (upd H5 b1 (.lst [.bl false])) b2 (.lst (List.replicate (11 : Int).toNat ([.bl false] : List V)).flatten)) := same_new (same_new (sAll.trans s5') m1) m2
            exact q _ (pot_same p3 sF) (k3.trans (same_keep sF))
end
end K11

set_option maxHeartbeats 4000000
namespace K11
open PySem PySem.Spec PyProof.Rows L2 Bx
/-- a weaker reading -/
theorem pe_imp {X : Cx} {e : Expr} {t t' : TE} (h : PE X e t) (i : ∀ σ H Q, t' σ H Q → t σ H Q) : PE X e t' := ⟨fun pins s σ H Q I q => h.run pins s σ H Q I (i σ H Q q)⟩
/-- the last item, or None -/
def lastOr (xs : List V) : V := (xs.getLast?).getD .non
def tLast (K : PySem.W.Frag) : TE := fun σ H Q => ∃ a xs, σ[3]? = some (some (.ref a)) ∧ SqL K H a xs ∧ (∀ v ∈ xs, okV v) ∧ ∀ H', Same H H' → Q (lastOr xs) H'
theorem last_imp {K : PySem.W.Frag} {σ : L2.St} {H : Hp} {Q : VK} (h : tLast K σ H Q) :
    tIf (tTest (tOp (fun x y H Q => ∃ a xs b, x = .ref a ∧ y = .ref b ∧ SqL K H a xs ∧ SqL K H b [] ∧ (∀ v ∈ xs, okV v) ∧ Q (.bl (!xs.isEmpty)) H) (tVar 3) (tLst tNil)))
      (tOp (rIxL K) (tVar 3) (tUn (rU fun i => .int (-i)) (tC (.int 1)))) (tC .non) σ H Q := by
  obtain ⟨a, xs, ea, hS, ok, q⟩ := h
  refine ⟨_, ea, Nat.zero_le _, fun b nb => ?_⟩
  have sm : Same H (upd H b (.lst [])) := same_upd nb
  refine ⟨a, xs, b, rfl, rfl, sm.seq hS, .inl (.inl upd_same), ok, _, rfl, ?_⟩
  rcases List.eq_nil_or_concat xs with e | ⟨r, z, e⟩
  · subst e
    exact iteF (q _ sm)
  · rw [List.concat_eq_append] at e
    subst e
    have e1 : (!(r ++ [z]).isEmpty) = true := by cases r <;> rfl
    have e2 : lastOr (r ++ [z]) = z := by
      unfold lastOr
      rw [List.getLast?_concat]
      rfl
    rw [e1]
    refine iteT ⟨_, ea, 1, rfl, a, _, -1, z, rfl, rfl, sm.seq hS, atI_last _ _, ?_⟩
    have := q _ sm
    rw [e2] at this
    exact this
/-! ### the mathematics of one turn -/
theorem nats_ints (fs : List Nat) : nats fs = (fs.map fun n : Nat => (n : Int)).map V.int := by
  rw [List.map_map]
  rfl
theorem sum_cast (fs : List Nat) : (fs.map fun n : Nat => (n : Int)).sum = (fs.sum : Nat) := by
  induction fs with
  | nil => rfl
  | cons x r ih =>
    rw [List.map_cons, List.sum_cons, List.sum_cons, ih]
    omega
theorem testBit_last {n : Nat} (h : n ≠ 0) : n.testBit n.log2 = true := Nat.testBit_log2 h
theorem bitsN_last {n : Nat} (h : n ≠ 0) : bitsN n = (List.range n.log2).filter n.testBit ++ [n.log2] := by
  unfold bitsN
  rw [List.range_succ, List.filter_append]
  simp [testBit_last h]
theorem bitsN_zero : bitsN 0 = [] := by decide
theorem lastOr_bits (n : Nat) : lastOr (nats (bitsN n)) = if n = 0 then .non else .int (n.log2 : Nat) := by
  by_cases h : n = 0
  · subst h
    rw [if_pos rfl]
    rfl
  · rw [if_neg h, bitsN_last h]
    unfold lastOr nats
    rw [List.map_append, List.map_cons, List.map_nil, List.getLast?_concat]
    rfl
theorem bits_lt {n k : Nat} (hn : n < 2 ^ 80) (h : k ∈ bitsN n) : k < 80 := by
  have h1 := mem_bitsN.mp h
  rcases Nat.lt_or_ge k 80 with z | z
  · exact z
  · have h2 := Nat.ge_two_pow_of_testBit h1
    have h3 : 2 ^ 80 ≤ 2 ^ k := Nat.pow_le_pow_right (by decide) z
    omega
theorem bitsN_nodup (n : Nat) : (bitsN n).Nodup := by
  unfold bitsN
  exact List.Pairwise.filter _ List.nodup_range
theorem orAll_perm {n : Nat} {zs : List Nat} (h : zs.Perm (bitsN n)) : orAll zs = n := by
  refine Nat.eq_of_testBit_eq fun j => ?_
  rw [orAll_testBit]
  have : j ∈ zs ↔ n.testBit j = true := (h.mem_iff).trans mem_bitsN
  cases e : n.testBit j with
  | true => exact decide_eq_true (this.mpr e)
  | false =>
    refine decide_eq_false fun z => ?_
    rw [this.mp z] at e
    cases e
/-- how many bits a number needs -/
def need (n : Nat) : Nat := if n = 0 then 0 else n.log2 + 1
theorem need_key (n m : Nat) : n < 2 ^ m ↔ need n ≤ m := by
  unfold need
  by_cases h : n = 0
  · subst h
    rw [if_pos rfl]
    exact ⟨fun _ => Nat.zero_le _, fun _ => Nat.two_pow_pos m⟩
  · rw [if_neg h]
    rw [← Nat.log2_lt h]
    omega
theorem need_max {n : Nat} {m : Int} (h1 : m ∈ (-1 : Int) :: (bitsN n).map fun k : Nat => (k : Int)) (h2 : ∀ x ∈ (-1 : Int) :: (bitsN n).map fun k : Nat => (k : Int), x ≤ m) : m + 1 = (need n : Nat) := by
  unfold need
  by_cases h : n = 0
  · subst h
    rw [bitsN_zero] at h1
    rw [if_pos rfl]
    have : m = -1 := by simpa using h1
    rw [this]
    rfl
  · rw [if_neg h]
    have hl : (n.log2 : Int) ≤ m := h2 _ (List.mem_cons_of_mem _ (List.mem_map.mpr ⟨n.log2, mem_bitsN.mpr (testBit_last h), rfl⟩))
    rcases List.mem_cons.mp h1 with z | z
    · omega
    · obtain ⟨k, hk, rfl⟩ := List.mem_map.mp z
      have := testBit_log2 (mem_bitsN.mp hk)
      omega
theorem places_eq {fs : List Nat} (h : ∀ b ∈ fs, b < 2) : (List.range fs.length).filter (numB fs).testBit = bitsN (numB fs) := by
  refine bitsN_of fun k e => ?_
  rw [numB_testBit fs h] at e
  exact (List.getElem?_eq_some_iff.mp (of_decide_eq_true e)).1
theorem ok_nats {ks : List Nat} (h : ∀ k ∈ ks, k < 2 ^ 200) : ∀ v ∈ nats ks, okV v := by
  intro v hv
  obtain ⟨k, hk, rfl⟩ := List.mem_map.mp hv
  exact okV_nat (h k hk)
theorem lt200 {n : Nat} (h : n < 2 ^ 80) : n < 2 ^ 200 := Nat.lt_of_lt_of_le h (Nat.pow_le_pow_right (by decide) (by decide))
theorem lt200' {n : Nat} (h : n < 100) : n < 2 ^ 200 := Nat.lt_of_lt_of_le h (Nat.le_trans (show 100 ≤ 2 ^ 80 by decide) (Nat.pow_le_pow_right (by decide) (by decide)))
section
variable {P : Program} {w : World} {K : PySem.W.Frag} {mg : Str → Option Value} {base : Heap}
def sp_right : Sp := fun vs H Q _ => ∃ p : Addr, vs = [.ref p] ∧ PotAt H p ∧ ∀ H', PotAt H' p → Keep p H H' → Q (.bl true) H'
theorem sc_law_right : FnScope ["_law_pot_here", "_law_flags", "_law_number_here", "_law_places", "_law_k", "_law_bit", "_law_odd", "_law_last", "_law_told", "_law_handed", "_law_kept"] ["_law_pot_here"] (defScope (top 29)) := ⟨rfl, rfl, rfl, by decide +kernel, rfl, by decide +kernel, by decide +kernel⟩
theorem ok_right (T : Txt K mg) (C_law_bits : CallF P w K mg base CX0 3 "_law_bits" ["_law_pot_here"] sp_bits) (C_law_number : CallF P w K mg base CX0 1 "_law_number" ["_law_flags"] (sp_number K))
    (C_parity : CallF P w K mg base CX0 4 "parity" ["word"] sp_parity) (C_leading_bit : CallF P w K mg base CX0 4 "leading_bit" ["word"] sp_leading_bit)
    (C_positions_of : CallF P w K mg base CX0 4 "positions_of" ["word"] sp_positions_of) (C_word_of : CallF P w K mg base CX0 2 "word_of" ["positions"] sp_word_of)
    (C_law_turned : CallF P w K mg base CX0 2 "_law_turned" ["_law_pot_here", "_law_some"] sp_turned)
    (C_law_lengths_right : CallG P w K mg base CX0 4 "_law_lengths_right" ["_law_pot_here", "_law_number_here", "_law_long"] sp_lengths) :
    CallG P w K mg base CX0 5 "_law_right" ["_law_pot_here"] sp_right := by
  refine callG_of T.d_law_right sc_law_right (fun _ _ _ _ _ _ us hl => match us, hl with | [_], _ => rfl) (fun vs H Q E h => ?_) (fun cdv A outer s H vs Q E hr gd h => ?_)
  · obtain ⟨p, rfl, _⟩ := h
    rfl
  · obtain ⟨p, rfl, hp, q⟩ := h
    refine ⟨_, (pss_cons (ps_set (i := 1) sc_law_right.nd rfl (.inl rfl) (pe_f C_law_bits (hr.mono (by decide)) (by rfl) pass0 (pa_cons (pv 0) pa_nil)))
      (pss_cons (ps_par (i := 2) (j := 3) (by rfl) sc_law_right.nd rfl rfl (by decide) rfl rfl (pa_cons (pe_f C_law_number (hr.mono (by decide)) (by rfl) pass0 (pa_cons (pv 1) pa_nil)) (pa_cons (pe_lc (own := [("_law_k", 4), ("_law_bit", 5)]) (g := gTup K 2 (gCons (gName 4) (gCons (gName 5) gNil))) (by rfl) sc_law_right.nd (pi_enum (by rfl) T.b_enumerate (pa_cons (pv 1) pa_nil)) (blkOk_by (own := [("_law_k", 4), ("_law_bit", 5)]) (N := ["_law_pot_here", "_law_flags", "_law_number_here", "_law_places", "_law_k", "_law_bit", "_law_odd", "_law_last", "_law_told", "_law_handed", "_law_kept"]) (sc := defScope (top 29)) (by decide +kernel)) (fun _ _ _ _ _ => (pg_tup (by rfl) (pgs_cons (pg_name (i := 4) sc_law_right.nd rfl (.inl rfl)) (pgs_cons (pg_name (i := 5) sc_law_right.nd rfl (.inl rfl)) pgs_nil)))) (fun _ _ _ _ _ => (pts_one (pt_cmpR op_eq (pv 5) pe_int (nomark _)))) (fun _ _ _ _ _ => (pv 4))) pa_nil)) (by rfl))
      (pss_cons (ps_set (i := 6) sc_law_right.nd rfl (.inl rfl) (pe_op op_mod (pe_callTy call_int1 (by rfl) T.b_int bt_int (pa_cons (pe_callB (cr_sum rfl) (by rfl) T.b_sum bb_sum (pa_cons (pv 1) pa_nil)) pa_nil)) pe_int))
      (pss_cons (ps_if (pt_cmpR op_ne (pe_callB (call_reprL gd hr.units) (by rfl) T.b_repr bb_repr (pa_cons (pe_lst (pa_cons (pe_f C_parity (hr.mono (by decide)) (by rfl) pass0 (pa_cons (pv 2) pa_nil)) (pa_cons (pe_fk0 C_parity T.d_parity (hr.mono (by decide)) (by rfl) (fun _ F => kw1 (fun _ _ _ _ _ _ _ => rfl) F) pass0 (pk_cons (pv 2) pk_nil)) pa_nil))) pa_nil)) (pe_callB (call_reprL gd hr.units) (by rfl) T.b_repr bb_repr (pa_cons (pe_lst (pa_cons (pv 6) (pa_cons (pv 6) pa_nil))) pa_nil)) (nomark _))
          (pss_one (ps_ret pe_bl))
          pss_nil)
      (pss_cons (ps_set (i := 7) sc_law_right.nd rfl (.inl rfl) (pe_imp (t' := tLast K) (pe_ifExp (pt_cmpR (op_neNil hr.units) (pv 3) (pe_lst pa_nil) (nomark _)) (pe_ix ix_list (pv 3) (pe_un un_neg pe_int) (fun _ _ => rfl)) pe_non) (fun _ _ _ h => last_imp h)))
      (pss_cons (ps_if (pt_cmpR op_ne (pe_callB (call_reprL gd hr.units) (by rfl) T.b_repr bb_repr (pa_cons (pe_lst (pa_cons (pe_f C_leading_bit (hr.mono (by decide)) (by rfl) pass0 (pa_cons (pv 2) pa_nil)) (pa_cons (pe_fk0 C_leading_bit T.d_leading_bit (hr.mono (by decide)) (by rfl) (fun _ F => kw1 (fun _ _ _ _ _ _ _ => rfl) F) pass0 (pk_cons (pv 2) pk_nil)) pa_nil))) pa_nil)) (pe_callB (call_reprL gd hr.units) (by rfl) T.b_repr bb_repr (pa_cons (pe_lst (pa_cons (pv 7) (pa_cons (pv 7) pa_nil))) pa_nil)) (nomark _))
          (pss_one (ps_ret pe_bl))
          pss_nil)
      (pss_cons (ps_set (i := 8) sc_law_right.nd rfl (.inl rfl) (pe_f C_positions_of (hr.mono (by decide)) (by rfl) pass0 (pa_cons (pv 2) pa_nil)))
      (pss_cons (ps_if (PW.pt (pw_or (pt_not (pt_val (pe_callB call_isi (by rfl) T.b_isinstance bb_isinstance (pa_cons (pv 8) (pa_cons (pe_bltn (v := .ty "list") (by rfl) T.b_list bt_list rfl) pa_nil))))) (pw_or1 (pt_cmpR op_ne (pe_callB (call_reprL gd hr.units) (by rfl) T.b_repr bb_repr (pa_cons (pv 8) pa_nil)) (pe_callB (call_reprL gd hr.units) (by rfl) T.b_repr bb_repr (pa_cons (pv 3) pa_nil)) (nomark _)))))
          (pss_one (ps_ret pe_bl))
          pss_nil)
      (pss_cons (ps_expr (pe_bm PySem.F.plainAttrs_list PySem.F.slot_list_append PySem.F.type_list_append mt_append (pv 8) (pa_cons pe_int pa_nil)))
      (pss_cons (ps_if (pt_cmpR op_ne (pe_callB (call_reprL gd hr.units) (by rfl) T.b_repr bb_repr (pa_cons (pe_fk0 C_positions_of T.d_positions_of (hr.mono (by decide)) (by rfl) (fun _ F => kw1 (fun _ _ _ _ _ _ _ => rfl) F) pass0 (pk_cons (pv 2) pk_nil)) pa_nil)) (pe_callB (call_reprL gd hr.units) (by rfl) T.b_repr bb_repr (pa_cons (pv 3) pa_nil)) (nomark _))
          (pss_one (ps_ret pe_bl))
          pss_nil)
      (pss_cons (ps_set (i := 9) sc_law_right.nd rfl (.inl rfl) (pe_f C_law_turned (hr.mono (by decide)) (by rfl) pass0 (pa_cons (pv 0) (pa_cons (pv 3) pa_nil))))
      (pss_cons (ps_set (i := 10) sc_law_right.nd rfl (.inl rfl) (pe_callB (call_reprL gd hr.units) (by rfl) T.b_repr bb_repr (pa_cons (pv 9) pa_nil)))
      (pss_cons (ps_if (pt_cmpR op_ne (pe_callB (call_reprL gd hr.units) (by rfl) T.b_repr bb_repr (pa_cons (pe_lst (pa_cons (pe_f C_word_of (hr.mono (by decide)) (by rfl) pass0 (pa_cons (pv 9) pa_nil)) (pa_cons (pe_f C_word_of (hr.mono (by decide)) (by rfl) pass0 (pa_cons (pe_callTy call_tuple_of (by rfl) T.b_tuple bt_tuple (pa_cons (pv 9) pa_nil)) pa_nil)) (pa_cons (pe_fk0 C_word_of T.d_word_of (hr.mono (by decide)) (by rfl) (fun _ F => kw1 (fun _ _ _ _ _ _ _ => rfl) F) pass0 (pk_cons (pv 9) pk_nil)) pa_nil)))) pa_nil)) (pe_callB (call_reprL gd hr.units) (by rfl) T.b_repr bb_repr (pa_cons (pe_op op_rep (pe_lst (pa_cons (pv 2) pa_nil)) pe_int) pa_nil)) (nomark _))
          (pss_one (ps_ret pe_bl))
          pss_nil)
      (pss_one (ps_ret (pe_and (pe_cmpR op_eq (pe_callB (call_reprL gd hr.units) (by rfl) T.b_repr bb_repr (pa_cons (pv 9) pa_nil)) (pv 10) (nomark _)) (pe_one (pe_fg C_law_lengths_right (hr.mono (by decide)) gd (by rfl) pass0 (pa_cons (pv 0) (pa_cons (pv 2) (pa_cons (pe_op op_add (pe_callB (cr_max rfl) (by rfl) T.b_max bb_max (pa_cons (pe_op op_cat (pe_lst (pa_cons (pe_un un_neg pe_int) pa_nil)) (pv 3)) pa_nil)) pe_int) pa_nil))))))))))))))))))))), ?_⟩
    -- flags
    refine ⟨_, rfl, p, rfl, hp, fun f fs H1 fb fl p1 k1 nf hf => ?_⟩
    have hn : numB fs < 2 ^ 80 := Nat.lt_of_lt_of_le (numB_lt fs fb) (Nat.pow_le_pow_right (by decide) fl)
    have fp : f ≠ p := Ne.symm (pot_ne hp nf)
    -- number, places
    refine ⟨_, rfl, f, fs, rfl, .inl (.inl hf), fb, by omega, _, rfl, f, _, rfl, .inl (.inl hf), fun D nD => ?_⟩
    have fD : f ≠ D := ne_of_none hf nD
    refine lc_it (walk_enum (xs := nats fs)) (fun i H' => Same H1 H' ∧ H' D = some (.lst (nats ((List.range i).filter (numB fs).testBit)))) ⟨same_upd nD, upd_same⟩ (fun i H' _ z => .inl (.inl (z.1 _ _ hf))) ?_ ?_
    · rintro i v H2 H3 hi ⟨sm, hd⟩ ⟨t, x, y, rfl, nt, rfl, hx, hy⟩
      have ex : x = .int (i : Nat) := (Option.some.inj hx).symm
      subst ex
      obtain ⟨b, eb, rfl⟩ := nats_at hy
      have hi2 : i < fs.length := (List.getElem?_eq_some_iff.mp eb).1
      have Dt : D ≠ t := ne_of_none hd nt
      have hd2 : (upd H2 t (.tup [.int (i : Nat), .int b])) D = some (.lst (nats ((List.range i).filter (numB fs).testBit))) := by
        rw [upd_ne Dt]
        exact hd
      refine ⟨t, _, rfl, .inl (.inl upd_same), rfl, _, _, rfl, _, _, rfl, rfl, rfl, _, rfl, rfl, _, rfl, ?_⟩
      have tb : (numB fs).testBit i = decide (b = 1) := by
        rw [numB_testBit fs fb, eb]
        simp
      by_cases hb : b = 1
      · subst hb
        have tb' : (numB fs).testBit i = true := tb
        refine iteT ⟨_, rfl, _, hd2, ?_, same_put (same_new sm nt) nD, ?_⟩
        · rw [List.length_map]
          exact Nat.lt_of_le_of_lt (filt_len _ i) (small1000 (by omega))
        · rw [upd_same, List.range_succ, List.filter_append]
          simp [tb']
      · have tb' : (numB fs).testBit i = false := by
          rw [tb]
          exact decide_eq_false hb
        have e : decide (V.int (b : Int) = V.int 1) = false := decide_eq_false fun z => hb (by
          have := V.int.inj z
          omega)
        rw [e]
        refine iteF ⟨same_new sm nt, ?_⟩
        rw [hd2, List.range_succ, List.filter_append]
        simp [tb']
    · rintro H2 ⟨s2, hd⟩
      rw [List.length_map, places_eq fb] at hd
      refine ⟨_, _, rfl, ?_⟩
      have hodd : (((fs.map fun n : Nat => (n : Int)).sum) % 2 : Int) = (parN (numB fs) : Nat) := by
        rw [sum_cast, parN_num fs fb (by omega)]
        exact (Int.natCast_emod fs.sum 2).symm
      obtain ⟨n, en⟩ : ∃ n, numB fs = n := ⟨_, rfl⟩
      rw [en] at hn hodd hd
      have hf2 := s2 _ _ hf
      have p2 := pot_same p1 s2
      have k2 : Keep p H H2 := k1.trans (same_keep s2)
      have Dp : D ≠ p := Ne.symm (pot_ne p1 nD)
      -- odd
      refine ⟨_, rfl, f, fs.map fun n : Nat => (n : Int), rfl, by rw [← nats_ints]; exact .inl (.inl hf2), .inl ⟨_, rfl, _, _, rfl, rfl, (by show (0 : Int) < 2; decide), ?_⟩⟩
      dsimp only
      rw [hodd, en]
      have okpar : ∀ v ∈ ([.int (parN n : Nat), .int (parN n : Nat)] : List V), okV v := ok_nats (ks := [parN n, parN n]) fun k hk => by
        have : k = parN n := by simpa using hk
        rw [this]
        exact lt200' (Nat.lt_trans (parN_lt n) (by decide))
      refine ⟨_, rfl, n, rfl, hn, _, rfl, rfl, n, rfl, hn, by show 2 ≤ sizeLine; decide, fun l1 m1 => ?_⟩
      refine ⟨l1, _, rfl, .inl (.inl upd_same), okpar, by show 2 ≤ 1000; decide, _, rfl, _, rfl, by show 2 ≤ sizeLine; decide, fun l2 m2 => ?_⟩
      refine ⟨l2, _, rfl, .inl (.inl upd_same), okpar, by show 2 ≤ 1000; decide, rfl, _, rfl, ?_⟩
      rw [decide_eq_true rfl]
      refine iteF ?_
      have s3 := same_new (o := .lst [.int (parN n : Nat), .int (parN n : Nat)]) (same_new (o := .lst [.int (parN n : Nat), .int (parN n : Nat)]) (Same.refl H2) m1) m2
      generalize (upd (upd H2 l1 (.lst [.int (parN n : Nat), .int (parN n : Nat)])) l2 (.lst [.int (parN n : Nat), .int (parN n : Nat)])) = H3 at s3 ⊢
      have okB : ∀ v ∈ nats (bitsN n), okV v := ok_nats fun k hk => lt200' (Nat.lt_trans (bits_lt hn hk) (by decide))
      have lenB : (nats (bitsN n)).length ≤ 100 := by
        rw [List.length_map]
        unfold bitsN
        have h1 := filt_len n (n.log2 + 1)
        have h2 : n.log2 < 80 := by
          by_cases z : n = 0
          · rw [z]
            decide
          · exact (Nat.log2_lt z).mpr hn
        omega
      -- last
      refine ⟨D, _, rfl, .inl (.inl (s3 _ _ hd)), okB, fun H4 s4 => ?_⟩
      rw [lastOr_bits]
      have okl : ∀ v ∈ ([(if n = 0 then .non else .int (n.log2 : Nat)), (if n = 0 then .non else .int (n.log2 : Nat))] : List V), okV v := by
        intro v hv
        have : v = (if n = 0 then .non else .int (n.log2 : Nat)) := by simpa using hv
        rw [this]
        split
        · exact trivial
        · refine okV_nat (lt200' ?_)
          have := (Nat.log2_lt (by assumption)).mpr hn
          omega
      refine ⟨_, rfl, n, rfl, hn, _, rfl, rfl, n, rfl, hn, by show 2 ≤ sizeLine; decide, fun l3 m3 => ?_⟩
      refine ⟨l3, _, rfl, .inl (.inl upd_same), okl, by show 2 ≤ 1000; decide, _, rfl, _, rfl, by show 2 ≤ sizeLine; decide, fun l4 m4 => ?_⟩
      refine ⟨l4, _, rfl, .inl (.inl upd_same), okl, by show 2 ≤ 1000; decide, rfl, _, rfl, ?_⟩
      rw [decide_eq_true rfl]
      refine iteF ?_
      have s5 := same_new (o := .lst [(if n = 0 then .non else .int (n.log2 : Nat)), (if n = 0 then .non else .int (n.log2 : Nat))]) (same_new (o := .lst [(if n = 0 then .non else .int (n.log2 : Nat)), (if n = 0 then .non else .int (n.log2 : Nat))]) (s3.trans s4) m3) m4
      generalize (upd (upd H4 l3 (.lst [(if n = 0 then .non else .int (n.log2 : Nat)), (if n = 0 then .non else .int (n.log2 : Nat))])) l4 (.lst [(if n = 0 then .non else .int (n.log2 : Nat)), (if n = 0 then .non else .int (n.log2 : Nat))])) = H5 at s5 ⊢
      -- told
      refine ⟨_, rfl, n, rfl, hn, fun t H6 s6 nt ht => ?_⟩
      have s26 : Same H2 H6 := s5.trans s6
      refine ⟨_, rfl, _, .ty "list", _, _, true, rfl, .ty _, .base (.lst ht), kit_ty (by decide +kernel), true, rfl, iteF ?_⟩
      refine ⟨_, rfl, t, _, rfl, .inl (.inl ht), okB, by omega, _, rfl, D, _, rfl, .inl (.inl (s26 _ _ hd)), okB, by omega, rfl, _, rfl, ?_⟩
      rw [decide_eq_true rfl]
      refine iteF ⟨_, rfl, .inl ⟨rfl, _, .inl (.inl ht)⟩, t, _, _, rfl, rfl, ht, Nat.lt_of_le_of_lt lenB (small1000 (by omega)), ?_⟩
      have nt2 : H2 t = none := s5.free nt
      have s27 : Same H2 (upd H6 t (.lst (nats (bitsN n) ++ [.int 99]))) := same_put s26 nt2
      generalize (upd H6 t (.lst (nats (bitsN n) ++ [.int 99]))) = H7 at s27 ⊢
      refine ⟨_, rfl, rfl, n, rfl, hn, fun t2 H8 s8 nt3 ht2 => ?_⟩
      have s28 : Same H2 H8 := s27.trans s8
      refine ⟨t2, _, rfl, .inl (.inl ht2), okB, by omega, _, rfl, D, _, rfl, .inl (.inl (s28 _ _ hd)), okB, by omega, rfl, _, rfl, ?_⟩
      rw [decide_eq_true rfl]
      refine iteF ?_
      -- handed
      have lenB' : (bitsN n).length ≤ 100 := by
        rw [List.length_map] at lenB
        exact lenB
      refine ⟨_, rfl, _, rfl, p, D, bitsN n, rfl, pot_same p2 s28, s28 _ _ hd, Dp, by omega, fun hh zs H9 pm p9 k9 nh eh => ?_⟩
      have hd9 : H9 D = some (.lst (nats (bitsN n))) := k9 _ _ (s28 _ _ hd) Dp
      have k29 : Keep p H H9 := (k2.trans (same_keep s28)).trans k9
      have ndz : zs.Nodup := pm.nodup_iff.mpr (bitsN_nodup n)
      have ltz : ∀ k ∈ zs, k < 80 := fun k hk => bits_lt hn (pm.mem_iff.mp hk)
      have orz : orAll zs = n := orAll_perm pm
      have okz : ∀ v ∈ nats zs, okV v := ok_nats fun k hk => lt200' (Nat.lt_trans (ltz k hk) (by decide))
      have lenz : (nats zs).length ≤ 100 := by
        rw [List.length_map, pm.length_eq]
        exact lenB'
      refine ⟨_, rfl, hh, _, rfl, .inl (.inl eh), okz, by omega, ?_⟩
      refine ⟨_, rfl, hh, zs, rfl, .inl eh, ndz, ltz, fun Ha sa => ?_⟩
      refine ⟨_, rfl, hh, _, rfl, .inl ⟨.inl (.inl (sa _ _ eh)), fun tt ntt => ?_⟩⟩
      refine ⟨tt, zs, rfl, .inr upd_same, ndz, ltz, fun Hb sb => ?_⟩
      have sb' : Same H9 Hb := (sa.trans (same_upd ntt)).trans sb
      refine ⟨_, rfl, rfl, hh, zs, rfl, .inl (sb' _ _ eh), ndz, ltz, fun Hc sc => ?_⟩
      have sc' : Same H9 Hc := sb'.trans sc
      rw [orz]
      have ok3 : ∀ v ∈ nats [n, n, n], okV v := ok_nats fun k hk => by
        have : k = n := by simpa using hk
        rw [this]
        exact lt200 hn
      refine ⟨by show 3 ≤ sizeLine; decide, fun b1 m5 => ⟨b1, _, rfl, .inl (.inl upd_same), ok3, by show 3 ≤ 1000; decide, ?_⟩⟩
      refine ⟨_, rfl, by show 1 ≤ sizeLine; decide, fun b2 m6 => ⟨b2, 3, _, rfl, rfl, upd_same, by decide, by decide, by show 1 * 3 ≤ sizeLine; decide, fun b3 m7 => ?_⟩⟩
      refine ⟨b3, _, rfl, .inl (.inl upd_same), ok3, by show 3 ≤ 1000; decide, rfl, _, rfl, ?_⟩
      have e3 : decide (V.str (reprL [.int (n : Int), .int (n : Int), .int (n : Int)]) = V.str (reprL (List.replicate (3 : Int).toNat ([.int (n : Int)] : List V)).flatten)) = true := decide_eq_true rfl
      rw [e3]
      refine iteF ?_
      have sd := same_new (o := .lst (List.replicate (3 : Int).toNat ([.int (n : Int)] : List V)).flatten) (same_new (o := .lst [.int (n : Int)]) (same_new (o := .lst [.int (n : Int), .int (n : Int), .int (n : Int)]) sc' m5) m6) m7
      generalize (upd (upd (upd Hc b1 (.lst [.int (n : Int), .int (n : Int), .int (n : Int)])) b2 (.lst [.int (n : Int)])) b3 (.lst (List.replicate (3 : Int).toNat ([.int (n : Int)] : List V)).flatten)) = Hd at sd ⊢
      refine ⟨_, rfl, hh, _, rfl, .inl (.inl (sd _ _ eh)), okz, by omega, _, rfl, rfl, true, congrArg V.bl (decide_eq_true rfl), iteT ?_⟩
      refine ⟨_, rfl, _, rfl, _, rfl, by show 1 ≤ sizeLine; decide, fun c1 m8 => ?_⟩
      have hdd : (upd Hd c1 (.lst [.int (-1)])) D = some (.lst (nats (bitsN n))) := same_upd m8 _ _ (sd _ _ hd9)
      refine ⟨_, rfl, c1, D, _, _, rfl, rfl, upd_same, hdd, ?_, fun c2 m9 => ?_⟩
      · show 1 + (nats (bitsN n)).length ≤ sizeLine
        exact Nat.le_of_lt (small1000 (by omega))
      have ecat : ([.int (-1)] ++ nats (bitsN n) : List V) = ((-1 : Int) :: (bitsN n).map fun k : Nat => (k : Int)).map V.int := by
        rw [List.map_cons, ← nats_ints]
        rfl
      refine ⟨c2, (-1 : Int) :: (bitsN n).map fun k : Nat => (k : Int), rfl, .inl (.inl ?_), Nat.succ_pos _, fun m hm hle => ?_⟩
      · rw [upd_same, ecat]
      refine ⟨_, _, rfl, rfl, ?_⟩
      have em := need_max hm hle
      have se : Same H9 (upd (upd Hd c1 (.lst [.int (-1)])) c2 (.lst ([.int (-1)] ++ nats (bitsN n)))) := same_new (same_new sd m8) m9
      refine ⟨p, n, need n, ?_, pot_same p9 se, hn, (need_key n 80).mp hn, need_key n, fun Hz pz kz => ?_⟩
      · show [V.ref p, V.int n, V.int (m + 1)] ++ [] = _
        rw [em]
        rfl
      · exact q Hz pz ((k29.trans (same_keep se)).trans kz)
def sp_law (K : PySem.W.Frag) : Sp := fun vs H Q _ => ∃ (a : Addr) (ns : List Int), vs = [.ref a] ∧ SqL K H a (ns.map V.int) ∧ ns.length ≤ 63 ∧ ∀ H', Q (.bl true) H'
theorem sc_law : FnScope ["_law_script", "_law_k"] ["_law_script"] (defScope (top 30)) := ⟨rfl, rfl, rfl, by decide +kernel, rfl, by decide +kernel, by decide +kernel⟩
theorem ok_law (T : Txt K mg) (C_law_pot : CallF P w K mg base CX0 1 "_law_pot" ["_law_script", "_law_k"] (sp_pot K)) (C_law_right : CallG P w K mg base CX0 5 "_law_right" ["_law_pot_here"] sp_right) :
    CallG P w K mg base CX0 6 "law" ["_law_script"] (sp_law K) := by
  refine callG_of T.d_law sc_law (fun _ _ _ _ _ _ us hl => match us, hl with | [_], _ => rfl) (fun vs H Q E h => ?_) (fun cdv A outer s H vs Q E hr gd h => ?_)
  · obtain ⟨a, ns, rfl, _⟩ := h
    rfl
  · obtain ⟨a, ns, rfl, hS, hl, q⟩ := h
    refine ⟨_, (pss_one (ps_ret (pe_callB (cr_all rfl) (by rfl) T.b_all bb_all (pa_cons (pe_lc (own := [("_law_k", 1)]) (by rfl) sc_law.nd (pi_range1 (by rfl) T.b_range (pa_cons (pe_callB (call_max2 rfl) (by rfl) T.b_max bb_max (pa_cons pe_int (pa_cons (pe_callB (call_min2 rfl) (by rfl) T.b_min bb_min (pa_cons (pe_callB call_len_seq (by rfl) T.b_len bb_len (pa_cons (pv 0) pa_nil)) (pa_cons pe_int pa_nil))) pa_nil))) pa_nil)) (blkOk_by (own := [("_law_k", 1)]) (N := ["_law_script", "_law_k"]) (sc := defScope (top 30)) (by decide +kernel)) (fun _ _ _ _ _ => (pg_name (i := 1) sc_law.nd rfl (.inl rfl))) (fun _ _ _ _ _ => pts_nil) (fun _ _ _ _ _ => (pe_fg C_law_right (hr.mono (by decide)) gd (by rfl) pass0 (pa_cons (pe_f C_law_pot (hr.mono (by decide)) (by rfl) pass0 (pa_cons (pv 0) (pa_cons (pv 1) pa_nil))) pa_nil)))) pa_nil)))), ?_⟩
    refine ⟨_, rfl, a, _, rfl, .inl hS, _, _, rfl, _, _, rfl, ?_⟩
    have hj : ∃ j : Nat, (if (if (6 : Int) < ((ns.map V.int).length : Int) then (6 : Int) else ((ns.map V.int).length : Int)) > (1 : Int) then (if (6 : Int) < ((ns.map V.int).length : Int) then (6 : Int) else ((ns.map V.int).length : Int)) else (1 : Int)) = (j : Int) ∧ j ≤ 6 := by
      rw [List.length_map]
      refine ⟨max 1 (min ns.length 6), ?_, by omega⟩
      repeat' split
      all_goals omega
    obtain ⟨j, ej, j6⟩ := hj
    show ∃ j : Int, _ ∧ _
    rw [ej]
    refine ⟨j, rfl, by omega, by omega, fun D nD => ?_⟩
    rw [Int.toNat_natCast]
    refine lc_range (lo := 0) (n := j) (fun i H' => Same H H' ∧ H' D = some (.lst ((List.replicate i true).map V.bl))) ⟨same_upd nD, upd_same⟩ ?_ ?_
    · rintro i H' hi ⟨sm, hd⟩
      refine ⟨rfl, _, rfl, _, rfl, a, ns, i, by simp, sm.seq hS, by omega, fun p H2 s2 np hp => ?_⟩
      refine ⟨p, rfl, hp, fun H3 p3 k3 => ?_⟩
      have Dp : D ≠ p := ne_of_none hd np
      have hd3 := k3 _ _ (s2 _ _ hd) Dp
      refine ⟨_, hd3, ?_, ?_, ?_⟩
      · rw [List.length_map, List.length_replicate]
        exact small1000 (by omega)
      · intro b o e
        have nb : b ≠ D := ne_of_none e nD
        rw [upd_ne nb]
        refine k3 _ _ (s2 _ _ (sm _ _ e)) ?_
        exact ne_of_none (sm _ _ e) np
      · rw [upd_same, List.replicate_succ']
        simp
    · rintro H' ⟨sm, hd⟩
      refine ⟨D, List.replicate j true, rfl, .inl (.inl hd), ?_⟩
      have e : (List.replicate j true).all id = true := by simp
      rw [e]
      exact q H'
end
end K11

set_option maxHeartbeats 0
namespace K11
open PySem PySem.Spec PyProof.Rows L2 Bx
def dd (x : Str) (st : Stmt) : He.DefD := ⟨(x, none), x, x, defArgs st, defBody st, defScope st, [], []⟩
def fn : List He.DefD := [dd "is_integer" (top 8), dd "want_bits" (top 9), dd "fits" (top 10), dd "want_word" (top 11), dd "is_list" (top 12), dd "parity_of" (top 13), dd "leading_of" (top 14), dd "bits_of" (top 15), dd "is_word" (top 16), dd "parity" (top 17), dd "leading_bit" (top 18), dd "positions_of" (top 19), dd "word_of" (top 20), dd "_law_pot" (top 22), dd "_law_draw" (top 23), dd "_law_pick" (top 24), dd "_law_bits" (top 25), dd "_law_number" (top 26), dd "_law_turned" (top 27), dd "_law_lengths_right" (top 28), dd "_law_right" (top 29), dd "law" (top 30)]
def fa : List He.Fa := [.glo "is_integer", .glo "want_bits", .glo "fits", .glo "want_word", .glo "is_list", .glo "parity_of", .glo "leading_of", .glo "bits_of", .glo "is_word", .glo "parity", .glo "leading_bit", .glo "positions_of", .glo "word_of", .glo "_law_pot", .glo "_law_draw", .glo "_law_pick", .glo "_law_bits", .glo "_law_number", .glo "_law_turned", .glo "_law_lengths_right", .glo "_law_right", .glo "law", .free "abs", .free "all", .free "bool", .free "divmod", .free "enumerate", .free "int", .free "isinstance", .free "len", .free "list", .free "max", .free "min", .free "range", .free "repr", .free "reversed", .free "str", .free "sum", .free "tuple", .int "MOST_BITS" 80, .glo "HALVES"]
def ex (K : PySem.W.Frag) : Bool := He.tupB K "HALVES" [.int 128, .int 64, .int 32, .int 16, .int 8, .int 4, .int 2, .int 1]
abbrev R : PySem.W.OpenRow := PySem.W.OpenLaw.row PySem.Challenge.rw_bitlaid_k11_words
abbrev hk : PySem.W.Hook := HeX.hookE 4 fa fn ex
def ob (s : PySem.W.SharedT) : HeX.AlE := HeX.obsEG 4 fa fn ex (HandSHeadRun.getT s)
theorem ob_eq (s : PySem.W.SharedT) : ob s = hk.obs s.abs := HeX.obsEG_eq (HandSHeadRun.getT_eq s)
def loose : List Str := (["BitlaidError", "InvalidBits", "InvalidWord", "InvalidPositions", "MOST_BITS", "HALVES", "is_integer", "want_bits", "fits", "want_word", "is_list", "parity_of", "leading_of", "bits_of", "is_word", "parity", "leading_bit", "positions_of", "word_of", "_law_pot", "_law_draw", "_law_pick", "_law_bits", "_law_number", "_law_turned", "_law_lengths_right", "_law_right"] : List Str)
theorem run (w : World) : HandSHeadRun.RunEq R (PySem.W.view R.prog [30]) hk ob 30000 loose w := by
  intro os
  kernel_rfl
theorem def_at {K : PySem.W.Frag} {h : Heap} {mg : Str → Option Value} (X : K.In h) (G : h.Ns mainGlobals mg) (c : HeX.SaysE fa fn ex K) (i j : Nat) {x : Str} {st : Stmt} (hd : fn[i]? = some (dd x st)) (hf : fa[j]? = some (.glo x)) : DefAt K mg x st := by
  obtain ⟨fd, F⟩ := c.d.def_ i hd
  exact ⟨fd, F, He.glo_ok X G (c.d.fact j hf)⟩
theorem txt_of {K : PySem.W.Frag} {h : Heap} {mg : Str → Option Value} (X : K.In h) (G : h.Ns mainGlobals mg) (c : HeX.SaysE fa fn ex K) : Txt K mg where
  b_abs := He.free_ok X G (c.d.fact 22 (f := .free "abs") rfl)
  b_all := He.free_ok X G (c.d.fact 23 (f := .free "all") rfl)
  b_bool := He.free_ok X G (c.d.fact 24 (f := .free "bool") rfl)
  b_divmod := He.free_ok X G (c.d.fact 25 (f := .free "divmod") rfl)
  b_enumerate := He.free_ok X G (c.d.fact 26 (f := .free "enumerate") rfl)
  b_int := He.free_ok X G (c.d.fact 27 (f := .free "int") rfl)
  b_isinstance := He.free_ok X G (c.d.fact 28 (f := .free "isinstance") rfl)
  b_len := He.free_ok X G (c.d.fact 29 (f := .free "len") rfl)
  b_list := He.free_ok X G (c.d.fact 30 (f := .free "list") rfl)
  b_max := He.free_ok X G (c.d.fact 31 (f := .free "max") rfl)
  b_min := He.free_ok X G (c.d.fact 32 (f := .free "min") rfl)
  b_range := He.free_ok X G (c.d.fact 33 (f := .free "range") rfl)
  b_repr := He.free_ok X G (c.d.fact 34 (f := .free "repr") rfl)
  b_reversed := He.free_ok X G (c.d.fact 35 (f := .free "reversed") rfl)
  b_str := He.free_ok X G (c.d.fact 36 (f := .free "str") rfl)
  b_sum := He.free_ok X G (c.d.fact 37 (f := .free "sum") rfl)
  b_tuple := He.free_ok X G (c.d.fact 38 (f := .free "tuple") rfl)
  c_MOST_BITS := He.int_ok X G (c.d.fact 39 (f := .int "MOST_BITS" 80) rfl)
  c_HALVES := He.glo_ok X G (c.d.fact 40 (f := .glo "HALVES") rfl)
  t_HALVES := fun H => He.tupB_ok (K := K) (vs := [.int 128, .int 64, .int 32, .int 16, .int 8, .int 4, .int 2, .int 1]) c.more H
  d_is_integer := def_at X G c 0 0 rfl rfl
  d_want_bits := def_at X G c 1 1 rfl rfl
  d_fits := def_at X G c 2 2 rfl rfl
  d_want_word := def_at X G c 3 3 rfl rfl
  d_is_list := def_at X G c 4 4 rfl rfl
  d_parity_of := def_at X G c 5 5 rfl rfl
  d_leading_of := def_at X G c 6 6 rfl rfl
  d_bits_of := def_at X G c 7 7 rfl rfl
  d_is_word := def_at X G c 8 8 rfl rfl
  d_parity := def_at X G c 9 9 rfl rfl
  d_leading_bit := def_at X G c 10 10 rfl rfl
  d_positions_of := def_at X G c 11 11 rfl rfl
  d_word_of := def_at X G c 12 12 rfl rfl
  d_law_pot := def_at X G c 13 13 rfl rfl
  d_law_draw := def_at X G c 14 14 rfl rfl
  d_law_pick := def_at X G c 15 15 rfl rfl
  d_law_bits := def_at X G c 16 16 rfl rfl
  d_law_number := def_at X G c 17 17 rfl rfl
  d_law_turned := def_at X G c 18 18 rfl rfl
  d_law_lengths_right := def_at X G c 19 19 rfl rfl
  d_law_right := def_at X G c 20 20 rfl rfl
  d_law := def_at X G c 21 21 rfl rfl
abbrev level : Nat := 6
theorem all_ok {P : Program} {w : World} {K : PySem.W.Frag} {mg : Str → Option Value} {base : Heap} (T : Txt K mg) : CallG P w K mg base CX0 6 "law" ["_law_script"] (sp_law K) := by
  have c1 := ok_is_integer (P := P) (w := w) (base := base) T
  have c2 := ok_want_bits T c1
  have c3 := ok_fits T c1
  have c4 := ok_want_word T c3
  have c5 := ok_is_list (P := P) (w := w) (base := base) T
  have c6 := ok_parity_of (P := P) (w := w) (base := base) T
  have c7 := ok_leading_of (P := P) (w := w) (base := base) T
  have c8 := ok_bits_of T c7
  have c9 := ok_is_word T c2 c3
  have c10 := ok_parity T c4 c6
  have c11 := ok_leading_bit T c4 c7
  have c12 := ok_positions_of T c4 c8
  have c13 := ok_word_of T c5 c1
  have d1 := ok_pot (P := P) (w := w) (base := base) T
  have d2 := ok_draw (P := P) (w := w) (base := base) T
  have d3 := ok_pick T d2
  have d4 := ok_bits T d2 d3
  have d5 := ok_number (P := P) (w := w) (base := base) T
  have d6 := ok_turned T d2
  have d7 := ok_lengths T d2 c9
  have d8 := ok_right T d4 d5 c10 c11 c12 c13 d6 d7
  exact ok_law T d1 d8
theorem ending {P : Program} {w : World} {K : PySem.W.Frag} {h : Heap} {mg : Str → Option Value} {f : Addr} (X : K.In h) (G : h.Ns mainGlobals mg) (c : HeX.SaysE fa fn ex K) (hf : mg ("law" : Str) = some (.ref f)) :
    ∃ (K : PySem.W.Frag) (fd : FuncData) (sp : Sp), K.In h ∧ (∀ (s : Shared) (u : Value), BindsTo s fd ⟨[u], []⟩ [("_law_script", u)]) ∧
      (∀ (H : Hp) (a : Addr) (ns : List Int), ns.length ≤ 63 → SqL K H a (ns.map V.int) → sp [.ref a] H (fun v _ => v = .bl true) fun _ _ _ => False) ∧
      ∀ base : Heap, K.In base → base.Ns mainGlobals mg → FnOkG P w K mg base CX0 level f fd ["_law_script"] sp := by
  have T := txt_of X G c
  obtain ⟨fd, F, hm⟩ := T.d_law
  have e := hf.symm.trans hm
  cases e
  have b := FunD.bindsA (ps := ["_law_script"]) F fun _ _ _ _ _ _ us hl => match us, hl with | [_], _ => rfl
  refine ⟨K, fd, sp_law K, X, fun s v => b s [v] rfl, fun H a ns hl hS => ⟨a, ns, rfl, hS, hl, fun _ => rfl⟩, fun base _ _ => ?_⟩
  exact fd_of F (all_ok (P := P) (w := w) (base := base) T)
end K11
open PySem PySem.W PySem.Calls PyProof.Rows
theorem PySem.Challenge.cw_bitlaid_k11_words_holds : PySem.Challenge.rw_bitlaid_k11_words.Holds := by
  w_on; o_law
  refine HandSHeadRun.head_any (r := OpenLaw.row PySem.Challenge.rw_bitlaid_k11_words) (q := view (OpenLaw.row PySem.Challenge.rw_bitlaid_k11_words).prog [30]) (H := K11.hk) (ob := K11.ob) (M := 30000) (loose := K11.loose)
    (d := HandSHeadRun.topDef (OpenLaw.row PySem.Challenge.rw_bitlaid_k11_words).prog 30) (kwd := []) K11.ob_eq (by kernel_rfl) (fun s => by kernel_rfl) K11.run
    (by kernel_rfl) (by kernel_rfl) (by kernel_rfl) (by rfl) (by first | assumption | decide +kernel) (by decide +kernel) ⟨rfl, rfl, rfl, rfl, rfl, by decide +kernel⟩ ?hw ?hc
  case hw => w_witness2
  case hc =>
    refine Bx.walkG (l := PySem.Challenge.rw_bitlaid_k11_words) (n := 63) (k := K11.level) (x := "_law_script") rfl (by decide) (by kernel_rfl) ⟨rfl, by decide, by decide⟩ ?F
    intro w mg fa h Y G hm0
    obtain ⟨K, KX, c⟩ := Y
    have hm : mg ("law" : PySem.Str) = some (.ref fa) := by
      have e : (HandSHeadRun.topDef (OpenLaw.row PySem.Challenge.rw_bitlaid_k11_words).prog 30).name = ("law" : PySem.Str) := by kernel_rfl
      rw [← e]
      exact hm0
    exact K11.ending KX G c hm

