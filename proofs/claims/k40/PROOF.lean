import PyProof.Rows.All
import Wide.All
import OpenK.AllK
import Wide.FinOn
import HandS.ForMost
import HandS.Defaults
import HandS.WordsExc
import HandS.HeadHook1
import HandS.HeadHook2
import HandS.Style
import HandS.Wide
import HandS.WideBits
import HandS.Gcd
import HandS.IsInst
import HandS.Exc
import HandS.ExcOwn
import HandS.ExcInit
import HandS.ExcField
import HandS.TryOnly
import HandS.FStr
import HandS.RaiseMore
import PyProof.ReprRoads
import HandS.NoneIn
import PyProof.ReprLen
import PyProof.StrLawsRepr
import HandS.TupAny
import PyProof.EqAt
import PyProof.P3In
import PyProof.NeKinds
import HandS.ExcIs
import KE.KExcIs
import PyProof.ListStr
import PySem.Challenge.RW_arrowcells_k40_tests_on_stores
import HandS.Text
import HandS.Deep
import HandS.ReplaceLit
import HandS.More
import HandS.Walk
import HandS.Conv
import HandS.Property
import HandS.OwnEq
import KE.KRevSl
import HandS.MakeKw
import HandS.Iter
import HandS.Dict
import KE.KDictPairs
import KE.GoesEnum
import HandS.ForSpec
import HandS.SortRule
import HandS.SetFor
import HandS.Strs
import HandS.DictComp
import HandS.TryMany
import PyProof.StrBlock2
import KE.KStateDown
import Lean
import HandS.Head0
import HandS.Head1
import HandS.Head2
import HandS.Head3
import HandS.HeadEnd
set_option Elab.async false
set_option linter.all false
set_option maxRecDepth 100000
set_option maxHeartbeats 2000000
namespace Ga
open PySem PySem.Spec PyProof.Rows L2
/-- a def's promise where no repr is under way -/
structure FnG (P : Program) (w : World) (K : PySem.W.Frag) (mg : Str → Option Value) (base : Heap) (CX : CXT) (k : Nat) (f : Addr) (fd : FuncData) (ps : List Str) (sp : Sp) : Prop where
  cnt : ∀ vs H Q E, sp vs H Q E → vs.length = ps.length
  go : ∀ (A : Around) (ev : List Env) (s : Shared) (H : Hp) (ar : Args) (us : List Value) (vs : List V) (Q : VK) (E : XK),
    A.guards = some [] → Room k A → Env0 P w K mg base A ev s H → BindsTo s fd ar (ps.zip us) → Vals vs us →
    sp vs H Q E → codeAny (model P w) A (.call (.ref f) ar) (CR CX ev P w H s Q E) s
section
variable {P : Program} {w : World} {K : PySem.W.Frag} {mg : Str → Option Value} {base : Heap} {CX : CXT} {k : Nat} {f : Addr} {fd : FuncData} {ps : List Str} {sp : Sp}
theorem FnG.of (F : FnOk P w K mg base CX k f fd ps sp) : FnG P w K mg base CX k f fd ps sp :=
  ⟨F.len, fun A ev s H ar us vs Q E _ => F.run A ev s H ar us vs Q E⟩
theorem FnG.mk' {params : Arguments} {body : List Stmt} {sc : Scope} {x qual : Str} {dvs : List V} {kws : List (Str × V)} {N : List Str}
    (F : FunD K x qual params body sc dvs kws f fd) (S : FnScope N ps sc) (cnt : ∀ vs H Q E, sp vs H Q E → vs.length = ps.length)
    (hb : ∀ (cdv : Value) (A : Around) (ev : List Env) (s : Shared) (H : Hp) (vs : List V) (Q : VK) (E : XK), A.guards = some [] →
      Room k (A.deeper (envOfC qual sc s.heap.objs.size f cdv)) → sp vs H Q E →
      ∃ t, PSs (cxOf CX P w K mg base N qual sc f cdv A ev s H E) body t ∧ t { nx := fun _ H' => Q .non H', rt := Q } (start N vs) H) :
    FnG P w K mg base CX (k + 1) f fd ps sp := by
  obtain ⟨oc, od, dV, kV, doc, pm, an, cdv, ct, sl, e, lk, hcd, _, _⟩ := F.ex
  subst e
  refine ⟨cnt, ?_⟩
  intro A ev s H ar us vs Q E hg hr e0 hbi rv hsp
  have hk : K.In s.heap := e0.mod.kin.keeps (fun b o q => (e0.bs b o q).1)
  have hl : s.heap.NoLimit := e0.mod.nolimit.keeps (fun b o q => (e0.bs b o q).1)
  refine codeAny_call_function hr.depth (hk _ _ lk) rfl S.co S.gen rfl
    (PySem.W.codeRec_of hk hcd) (hbi _ _ _ _ ?_)
  refine wpAny_newFunctionEnv_cells S.kind ?_ ?_
  · rintro ⟨n, v⟩ hy
    have hp := S.par n (List.of_mem_zip hy).1
    cases hp with
    | inl q => exact .inl q
    | inr q => exact .inr ⟨q, PySem.W.cellsFrom_some _ _ _ (.inl q)⟩
  intro env he s1 x
  subst he
  refine ⟨hl.keeps x.toInCall.keep, codeAny_func ?_⟩
  obtain ⟨t, ht, hq⟩ := hb cdv A ev s H vs Q E hg (hr.deeper _) hsp
  have I := inv_start (CX := CX) (E := E) S hr.hd e0 (cnt _ _ _ _ hsp) rv x
  refine wpAny_mono (ht.run [] s1 _ H _ I hq) ?_ (fun _ _ z => z)
  intro fl s' hs
  cases fl with
  | brk => obtain ⟨_, _, _, q⟩ := hs; exact q.elim
  | cont => obtain ⟨_, _, _, q⟩ := hs; exact q.elim
  | next =>
    obtain ⟨_, H', J, q⟩ := hs
    exact ⟨.non, H', J.os, J.bare, J.base, J.hok, rfl, q⟩
  | ret u =>
    obtain ⟨v, _, H', J, r, q⟩ := hs
    exact ⟨v, H', J.os, J.bare, J.base, J.hok, r, q⟩
end
section
variable {X : Cx} {CX : CXT} {k : Nat} {f : Addr} {fd : FuncData} {ps : List Str} {sp : Sp} {E : XK} {x : Str} {p pos : Pos} {e : Expr} {es : List Expr} {t : TA} {ds : List Value} {dvs : List V}
theorem run_fnG {pins : List (Addr × Obj)} {σ : L2.St} {H : Hp} {s : Shared} {Q : VK} {us : List Value} {vs : List V} (F : FnG X.prog X.w X.K X.mg X.base CX k f fd ps sp) (hG : X.A.guards = some []) (hr : Room k X.A)
    (hb : Binds X.K fd ps ds) (hd : Vals dvs ds) (hx : Passes CX X E) (I : Inv X pins σ H s) (r : Vals vs us) (h : sp (vs ++ dvs) H Q E) : wpAny (model X.prog X.w) X.A (call (.ref f) us) (EP X pins σ Q) X.xe s := by
  have r2 := Vals.append r hd
  refine wpAny_call (codeAny_mono (F.go X.A X.stack s H ⟨us, []⟩ (us ++ ds) (vs ++ dvs) Q E hG hr I.env0
    (hb s us I.kIn (r2.length.symm.trans (F.cnt _ _ _ _ h))) r2 h) ?_)
  intro res s' hq
  cases res with
  | error er => exact hx pins σ H s er s' I hq
  | ok fl =>
    cases fl <;> first
      | exact I.after hq
      | exact hq.elim
theorem pe_callG (F : FnG X.prog X.w X.K X.mg X.base CX k f fd ps sp) (hG : X.A.guards = some []) (hr : Room k X.A) (hg : Gl X x) (hm : X.mg x = some (.ref f))
    (hk : PySem.W.keepIn X.K (.ref f) = true) (hb : Binds X.K fd ps ds) (hd : Vals dvs ds) (hx : Passes CX X E) (ha : PA X (e :: es) t)
    (hdb : (x == ("__debug__" : Str)) = false := by decide)
    (he : starEach (e :: es) X.env = (false, eval e X.env) :: starEach es X.env := by rfl)
    (hpl : (backTo pos (starEach es X.env)).any (·.1) = false := by rfl) : PE X (.Call (.Name x p) (e :: es) [] pos) (tCall sp dvs E t) := by
  constructor
  intro pins s σ H Q I h
  refine wpAny_Call_Name_kw (ld_glob I hg hm ?_ hdb)
  refine PySem.W.callWith_K (h₀ := X.base) I.ok.mod.kin hk ?_ he hpl
  refine thn (ha.run pos pins s σ H _ I h) ?_
  rintro us s1 ⟨vs, H1, I1, r, q⟩
  exact ⟨I1.kIn, run_fnG F hG hr hb hd hx I1 r q⟩
end
/-! ### repr of data -/
def dpt : PyData → Nat := PyData.depth
def rRepr (K : PySem.W.Frag) : List V → Hp → VK → Prop := fun xs H Q => ∃ (x : V) (d : PyData), xs = [x] ∧ Dp K H x d ∧ d.showable = true ∧ d.hasDict = false ∧ d.depth ≤ 50 ∧ d.shown.length ≤ sizeLine ∧ (∀ i, d = .int i → i.natAbs.log2 < 1920) ∧ Q (.str d.shown) H
theorem call_repr {X : Cx} {k : Nat} (hG : X.A.guards = some []) (hr : Room k X.A) : CallR X (.builtin "repr") (rRepr X.K) := by
  intro pins s σ H xs us Q I rv h
  obtain ⟨x, d, rfl, hd, hs, hn, hdp, hz, hi, q⟩ := h
  cases rv with
  | cons rx rn =>
    cases rn
    have fin : ∀ (tk : Nat) (u : Tok), EP X pins σ Q (.str d.shown u) { s with toks := tk } := fun tk u => ⟨.str d.shown, H, I.tok _, ⟨u, rfl⟩, q⟩
    obtain ⟨as, rd⟩ := Dp.reads I d x _ hd rx
    have hu := hr.units
    cases hd with
    | non => cases rx; exact PySem.P.repr_of_none (fin _ _)
    | bl b => cases rx; cases b <;> exact PySem.P.repr_of_bool (fin _ _)
    | int i => obtain ⟨t, rfl⟩ := rx; exact PySem.P.repr_of_int (hi i rfl) (fin _ _)
    | str y => obtain ⟨t, rfl⟩ := rx; exact PySem.P.repr_of_str (fin _ _) hz
    | lst ha hb =>
      cases rx
      refine repr_of_reads' rd hs (fun z => ?_) hG (by omega) (fun _ _ z => z) (fun h' u tk hk => ?_) hz
      · rw [hn] at z; cases z
      · exact ⟨.str _, H, I.kept (t' := tk) hk, ⟨u, rfl⟩, q⟩
    | tup ha hb =>
      cases rx
      refine repr_of_reads' rd hs (fun z => ?_) hG (by omega) (fun _ _ z => z) (fun h' u tk hk => ?_) hz
      · rw [hn] at z; cases z
      · exact ⟨.str _, H, I.kept (t' := tk) hk, ⟨u, rfl⟩, q⟩
/-! ### the law's end -/
theorem end_G {P : Program} {w : World} {K : PySem.W.Frag} {mg mb : Str → Option Value} {CX : CXT} {k : Nat} {fa a : Addr} {fd : FuncData} {x : Str} {sp : Sp} {s1 : Shared} {vs : List Value} {ns : List Int}
    (KX : K.In s1.heap) (hns : s1.heap.Ns mainGlobals mg) (hbn : s1.heap.Ns builtinsNs mb) (hbb : ∀ x : Str, x ≠ "__name__" → mb x = bootBuiltins x) (hlim : s1.heap.NoLimit) (hg : s1.gens = #[])
    (ha : s1.heap.get? a = some { cls := .type "list", data := .seq vs.toArray }) (hi : IntsAre vs ns) (hl : ns.length ≤ sizeLine) (hr : Room k callerA)
    (F : ∀ base : Heap, K.In base → base.Ns mainGlobals mg → FnG P w K mg base CX k fa fd [x] sp) (hbind : ∀ (s : Shared) (u : Value), BindsTo s fd ⟨[u], []⟩ [(x, u)])
    (hsp : ∀ H : Hp, Only H → SqL K H a (ns.map V.int) → sp [.ref a] H (fun v _ => v = .bl true) fun _ _ _ => False)
    (hCX : ∀ H e s', CX [] H s1 (fun _ _ _ => False) e s' → False) :
    codeAny (model P w) callerA (.call (.ref fa) ⟨[.ref a], []⟩)
      (fun r s' => r = .ok (.ret (.bool true)) ∧ OldK s1.heap s'.heap ∧ s'.os = s1.os ∧ AllBare s'.gens) s1 := by
  let ob : Obj := { cls := .type "list", data := .seq vs.toArray }
  have rv : Vals (ns.map V.int) vs := vals_ints hi
  have main : ∀ H : Hp, (∀ b, H b = none ∨ (b = a ∧ K.lookup a = none ∧ H b = some (.frz ob (.lst (ns.map V.int))))) → SqL K H a (ns.map V.int) →
      codeAny (model P w) callerA (.call (.ref fa) ⟨[.ref a], []⟩)
        (fun r s' => r = .ok (.ret (.bool true)) ∧ OldK s1.heap s'.heap ∧ s'.os = s1.os ∧ AllBare s'.gens) s1 := by
    intro H hH hS
    have hok : HOk P w H s1.heap := by
      intro b u e
      rcases hH b with z | ⟨rfl, _, z⟩
      · rw [e] at z; cases z
      · rw [e] at z; cases z
        exact ⟨ha, by rw [List.length_map]; exact hl, vs, _, rv, ha⟩
    have nsH : ∀ {b : Addr} {m : Str → Option Value}, s1.heap.Ns b m → (hidT s1.heap H).Ns b m := by
      rintro b m ⟨o, es, ep, e, d, r⟩
      refine ⟨o, es, ep, hidT_get e ?_, d, r⟩
      rcases hH b with z | ⟨rfl, _, z⟩
      · exact z
      · rw [ha] at e; cases e; cases (show Data.seq vs.toArray _ = Data.dict es ep from d)
    have kB : K.In (hidT s1.heap H) := by
      intro b o e
      refine hidT_get (KX b o e) ?_
      rcases hH b with z | ⟨rfl, n, z⟩
      · exact z
      · rw [n] at e; cases e
    obtain ⟨mc, l1, l2⟩ := hlim
    have e0 : Env0 P w K mg (hidT s1.heap H) callerA [] s1 H :=
      ⟨rfl, ⟨kB, nsH hns, ⟨mb, nsH hbn, hbb⟩, ⟨mc, nsH l1, l2⟩⟩, fun b o e => of_hidT e, by rw [hidT_size]; exact Nat.le_refl _, trivial, fun b hb => (nomatch hb), hok, .of_eq hg⟩
    have hO : Only H := by
      intro b
      rcases hH b with z | ⟨_, _, z⟩
      · exact .inl z
      · exact .inr ⟨_, _, z⟩
    refine codeAny_mono ((F _ kB (nsH hns)).go callerA [] s1 H ⟨[.ref a], []⟩ [.ref a] [.ref a] _ _ rfl hr e0 (hbind s1 (.ref a)) (.cons rfl .nil) (hsp H hO hS)) ?_
    intro r s' h
    match r, h with
    | .error e, h => exact (hCX H e s' h).elim
    | .ok (.ret u), h =>
      obtain ⟨v, H', os, bare, un, hok', r', q⟩ := h
      subst q
      cases r'
      refine ⟨rfl, OldK.of_keep ?_, os, bare⟩
      intro b o e
      rcases hH b with z | ⟨rfl, _, z⟩
      · exact un.keep b o e z (fun hm => nomatch hm) (fun hm => nomatch hm)
      · have z2 := un.frzs _ _ _ z
        have y := (hok' _ _ z2).1
        rw [ha] at e; cases e
        exact y
    | .ok .next, h => exact h.elim
    | .ok .brk, h => exact h.elim
    | .ok .cont, h => exact h.elim
  cases hk : K.lookup a with
  | some o =>
    have e := KX a o hk
    rw [ha] at e
    cases e
    exact main (fun _ => none) (fun _ => .inl rfl) (.inr ⟨_, vs.toArray, _, hk, rfl, rfl, rfl, by rw [List.size_toArray, hi.length]; exact hl, rv⟩)
  | none =>
    refine main (fun b => if b = a then some (.frz ob (.lst (ns.map V.int))) else none) (fun b => ?_) (.inl (.inr ⟨ob, if_pos rfl⟩))
    by_cases hb : b = a
    · exact .inr ⟨hb, hk, if_pos hb⟩
    · exact .inl (if_neg hb)
theorem walk_G {l : PySem.W.OpenLaw} {n k : Nat} {q : Program} {loose : List Str} {XP : (Str → Option Value) → Heap → Prop} {YP : World → Heap → Prop} {d : DefRec} {CX : World → CXT} {x : Str}
    (hn : l.most = some n) (hn2 : n ≤ sizeLine) (hdf : d.params.defaults = []) (hr : Room k callerA)
    (F : ∀ (w : World) (mg : Str → Option Value) (fa : Addr) (h : Heap), YP w h → h.Ns mainGlobals mg → mg d.name = some (.ref fa) →
      ∃ (K : PySem.W.Frag) (fd : FuncData) (sp : Sp), K.In h ∧ (∀ (s : Shared) (u : Value), BindsTo s fd ⟨[u], []⟩ [(x, u)]) ∧
        (∀ (H : Hp) (a : Addr) (ns : List Int), ns.length ≤ n → Only H → SqL K H a (ns.map V.int) → sp [.ref a] H (fun v _ => v = .bl true) fun _ _ _ => False) ∧
        ∀ base : Heap, K.In base → base.Ns mainGlobals mg → FnG l.prog w K mg base (CX w) k fa fd [x] sp)
    (hCX : ∀ (w : World) (H : Hp) (s : Shared) (e : Value) (s' : Shared), CX w [] H s (fun _ _ _ => False) e s' → False) :
    PySem.W.WalkO q loose XP YP l.row.toRowW d [] (fun f vs => PySem.call f vs) := by
  refine Att.attach_call hn hdf ?_
  intro w s0 s1 mg mb fa o pm cd doc a vs ns G Y ho hd hcd hmg hobj hints hlen hg
  obtain ⟨K, fd, sp, KX, hb, hsp, hF⟩ := F w mg fa _ Y G.T.g hmg
  exact end_G KX G.T.g G.T.b G.T.builtins G.T.nolimit hg hobj hints (Nat.le_trans hlen hn2) hr hF hb
    (fun H hO hS => hsp H a ns hlen hO hS) (fun H e s' => hCX w H s1 e s')
/-! ### a head's facts with one more Bool -/
open He in
abbrev AlM : Type := AlD × Bool
open He in
def obsM (n : Nat) (fa : List Fa) (fn : List DefD) (ex : PySem.W.Frag → Bool) (g : Addr → Option Obj) : AlM := (obsD fa fn (frG g (asD g n)), ex (frG g (asD g n)))
open He in
def hookM (n : Nat) (fa : List Fa) (fn : List DefD) (ex : PySem.W.Frag → Bool) : PySem.W.Hook where
  α := AlM
  obs := fun s => obsM n fa fn ex s.heap.get?
  val := fun _ => (valD fn, true)
  says := fun _ h => ∃ K : PySem.W.Frag, K.In h ∧ SaysD fa fn K ∧ ex K = true
  of := fun _ _ e => ⟨_, frG_in, congrArg Prod.fst e, congrArg Prod.snd e⟩
  keeps := fun _ _ _ ⟨K, hK, c⟩ k => ⟨K, PySem.W.Frag.In.keeps hK k, c⟩
open He in
theorem obsM_eq {n : Nat} {fa : List Fa} {fn : List DefD} {ex : PySem.W.Frag → Bool} {g : Addr → Option Obj} {s : Shared} (h : ∀ a, g a = s.heap.get? a) : obsM n fa fn ex g = (hookM n fa fn ex).obs s := by
  obtain rfl : g = s.heap.get? := funext h
  rfl
end Ga

set_option Elab.async false
set_option linter.all false
set_option maxRecDepth 100000
set_option maxHeartbeats 2000000
/-! readings, written out where they are applied -/
namespace Rd
open PySem PySem.Spec PyProof.Rows L2
section
variable {σ : L2.St} {H : Hp} {Q : VK} {D : Ends} {ta tb tc te to ti : TE} {r r' : R2} {t u : TS} {tt tu : TT} {QB : Bool → Hp → Prop} {QL : List V → Hp → Prop} {TA1 TA2 : TA} {K : PySem.W.Frag} {QS : L2.St → Hp → Prop}
theorem tVar_ {i : Nat} : tVar i σ H Q = ∃ v, σ[i]? = some (some v) ∧ Q v H := rfl
theorem tC_ {v : V} : tC v σ H Q = Q v H := rfl
theorem tOp_ : tOp r ta tb σ H Q = ta σ H fun x H1 => tb σ H1 fun y H2 => r x y H2 Q := rfl
theorem tUn_ {f : V → Hp → VK → Prop} : tUn f ta σ H Q = ta σ H fun x H1 => f x H1 Q := rfl
theorem rI_ {C : Int → Int → Prop} {g : Int → Int → V} {x y : V} : rI C g x y H Q = ∃ i j, x = .int i ∧ y = .int j ∧ C i j ∧ Q (g i j) H := rfl
theorem rI0_ {g : Int → Int → V} {x y : V} : rI0 g x y H Q = ∃ i j, x = .int i ∧ y = .int j ∧ Q (g i j) H := rfl
theorem rU_ {g : Int → V} {x : V} : rU g x H Q = ∃ i, x = .int i ∧ Q (g i) H := rfl
theorem rEq_ {x y : V} : rEq x y H Q = (scal x y = true ∧ Q (.bl (decide (x = y))) H) := rfl
theorem rNe_ {x y : V} : rNe x y H Q = (scal x y = true ∧ Q (.bl (!decide (x = y))) H) := rfl
theorem tAndV_ : tAndV ta tb σ H Q = ta σ H fun x H1 => ∃ c, x = .bl c ∧ if c = true then tb σ H1 Q else Q (.bl false) H1 := rfl
theorem tOrV_ : tOrV ta tb σ H Q = ta σ H fun x H1 => ∃ c, x = .bl c ∧ if c = true then Q (.bl true) H1 else tb σ H1 Q := rfl
theorem tNotV_ : tNotV ta σ H Q = ta σ H fun x H1 => ∃ c, x = .bl c ∧ Q (.bl (!c)) H1 := rfl
theorem tIf_ : tIf tt ta tb σ H Q = tt σ H fun c H1 => if c = true then ta σ H1 Q else tb σ H1 Q := rfl
theorem tTest_ : tTest ta σ H QB = ta σ H fun x H' => ∃ k, x = .bl k ∧ QB k H' := rfl
theorem tB_ : tB ta σ H QB = ta σ H fun x H1 => ∃ c, x = .bl c ∧ QB c H1 := rfl
theorem tAnd_ : tAnd tt tu σ H QB = tt σ H fun c H1 => if c = true then tu σ H1 QB else QB false H1 := rfl
theorem tOr_ : tOr tt tu σ H QB = tt σ H fun c H1 => if c = true then QB true H1 else tu σ H1 QB := rfl
theorem tNot_ : tNot tt σ H QB = tt σ H fun c H1 => QB (!c) H1 := rfl
theorem tChain_ : tChain r r' ta tb tc σ H Q = ta σ H fun x H1 => tb σ H1 fun y H2 => r x y H2 fun z H3 => ∃ k, z = .bl k ∧ (if k = true then tc σ H3 fun w' H4 => r' y w' H4 Q else Q (.bl false) H3) := rfl
theorem tNil_ : tNil σ H QL = QL [] H := rfl
theorem tCons_ : tCons ta TA1 σ H QL = ta σ H fun x H1 => TA1 σ H1 fun xs H2 => QL (x :: xs) H2 := rfl
theorem tTup_ : tTup TA1 σ H Q = TA1 σ H fun xs H1 => xs.length ≤ sizeLine ∧ ∀ p, H1 p = none → Q (.ref p) (upd H1 p (.tup xs)) := rfl
theorem tLst_ : tLst TA1 σ H Q = TA1 σ H fun xs H1 => xs.length ≤ sizeLine ∧ ∀ p, H1 p = none → Q (.ref p) (upd H1 p (.lst xs)) := rfl
theorem tCB_ {f : List V → Hp → VK → Prop} : tCB f TA1 σ H Q = TA1 σ H fun vs H1 => f vs H1 Q := rfl
theorem tCall_ {sp : Sp} {dvs : List V} {E : XK} : tCall sp dvs E TA1 σ H Q = TA1 σ H fun vs H1 => sp (vs ++ dvs) H1 Q E := rfl
theorem tSeq_ : tSeq t u D σ H = t { D with nx := u D } σ H := rfl
theorem tNext_ : tNext D σ H = D.nx σ H := rfl
theorem tRet_ : tRet ta D σ H = ta σ H D.rt := rfl
theorem tRetN_ : tRetN D σ H = D.rt .non H := rfl
theorem tDrop_ : tDrop ta D σ H = ta σ H fun _ H1 => D.nx σ H1 := rfl
theorem tNever_ : tNever D σ H = False := rfl
theorem tBreak_ : tBreak D σ H = D.bk σ H := rfl
theorem tIfS_ : tIfS tt t u D σ H = tt σ H fun b H1 => if b = true then t D σ H1 else u D σ H1 := rfl
theorem tAsg_ {g : TG} : tAsg ta g D σ H = ta σ H fun x H1 => g x σ H1 D.nx := rfl
theorem gName_ {i : Nat} {v : V} : gName i v σ H QS = QS (σ.set i (some v)) H := rfl
theorem gTup_ {n : Nat} {g : TGs} {v : V} : gTup K n g v σ H QS = ∃ a xs, v = .ref a ∧ SqT K H a xs ∧ xs.length = n ∧ g xs σ H QS := rfl
theorem gCons_ {g : TG} {gs : TGs} {vs : List V} : gCons g gs vs σ H QS = ∃ v r, vs = v :: r ∧ g v σ H fun σ' H' => gs r σ' H' QS := rfl
theorem gNil_ {vs : List V} : gNil vs σ H QS = (vs = [] ∧ QS σ H) := rfl
theorem gSub_ {s : TSet} {v : V} : gSub to ti s v σ H QS = to σ H fun o H1 => ti σ H1 fun i H2 => s o i v H2 fun H3 => QS σ H3 := rfl
theorem tPar_ {i j : Nat} : tPar i j TA1 D σ H = TA1 σ H fun vs H1 => ∃ v w, vs = [v, w] ∧ D.nx ((σ.set i (some v)).set j (some w)) H1 := rfl
theorem tPar3_ {i j l : Nat} : tPar3 i j l TA1 D σ H = TA1 σ H fun vs H1 => ∃ u v w, vs = [u, v, w] ∧ D.nx (((σ.set i (some u)).set j (some v)).set l (some w)) H1 := rfl
theorem tSl_ {f : V → Option Int → Option Int → Hp → VK → Prop} {tl th : TO} : tSl f te tl th σ H Q = te σ H fun x H1 => tl σ H1 fun l H2 => th σ H2 fun u H3 => f x l u H3 Q := rfl
theorem tNoPart_ {Q : Option Int → Hp → Prop} : tNoPart σ H Q = Q none H := rfl
theorem tPart_ {Q : Option Int → Hp → Prop} : tPart ta σ H Q = ta σ H fun x H1 => ∃ i, x = .int i ∧ Q (some i) H1 := rfl
theorem tBM_ {T : String} {f : V → List V → Hp → VK → Prop} : tBM K T f to TA1 σ H Q = to σ H fun x H1 => tyV K T x H1 ∧ TA1 σ H1 fun xs H2 => f x xs H2 Q := rfl
theorem tDNewK_ : tDNewK σ H Q = ∀ p, H p = none → Q (.ref p) (upd H p (.dK [])) := rfl
theorem tFor_range1 {g : TG} {tb : TS} : tFor (iRng1 TA1) g tb D σ H = TA1 σ H fun vs H1 => ∃ j : Int, vs = [.int j] ∧ -(2 ^ 62) ≤ j ∧ j < 2 ^ 62 ∧ tFor (fun _ H R => R (Itr 0 j.toNat) H) g tb D σ H1 := rfl
theorem tFor_range2 {g : TG} {tb : TS} : tFor (iRng2 TA1) g tb D σ H = TA1 σ H fun vs H1 => ∃ i j : Int, vs = [.int i, .int j] ∧ (-(2 ^ 62) ≤ i ∧ i < 2 ^ 62 ∧ -(2 ^ 62) ≤ j ∧ j < 2 ^ 62) ∧ tFor (fun _ H R => R (Itr i (j - i).toNat) H) g tb D σ H1 := rfl
theorem tFor_list {g : TG} {tb : TS} : tFor (iList K ta) g tb D σ H = ta σ H fun x H1 => ∃ a, x = .ref a ∧ (∃ xs, SqL K H1 a xs) ∧ tFor (fun _ H R => R (Itl K a) H) g tb D σ H1 := rfl
theorem tFor_tup {g : TG} {tb : TS} : tFor (iTup K ta) g tb D σ H = ta σ H fun x H1 => ∃ a, x = .ref a ∧ (∃ xs, SqT K H1 a xs) ∧ tFor (fun _ H R => R (Itt K a) H) g tb D σ H1 := rfl
end
/-- a for over a range, by an invariant -/
theorem for_r {lo : Int} {n : Nat} {g : TG} {tb : TS} {D : Ends} {σ : L2.St} {H : Hp} (Pv : Nat → L2.St → Hp → Prop) (h0 : Pv 0 σ H)
    (hs : ∀ i σ H, i < n → Pv i σ H → g (.int (lo + i)) σ H fun σ2 H2 => tb { D with nx := Pv (i + 1), ct := Pv (i + 1), bk := D.nx } σ2 H2) (hd : ∀ σ H, Pv n σ H → D.nx σ H) :
    tFor (fun _ H R => R (Itr lo n) H) g tb D σ H := for_range Pv h0 hs hd
theorem for_l {K : PySem.W.Frag} {a : Addr} {xs : List V} {g : TG} {tb : TS} {D : Ends} {σ : L2.St} {H : Hp} (Pv : Nat → L2.St → Hp → Prop) (h0 : Pv 0 σ H) (hl : ∀ i σ H, i ≤ xs.length → Pv i σ H → SqL K H a xs)
    (hs : ∀ i x σ H, xs[i]? = some x → Pv i σ H → g x σ H fun σ2 H2 => tb { D with nx := Pv (i + 1), ct := Pv (i + 1), bk := D.nx } σ2 H2) (hd : ∀ σ H, Pv xs.length σ H → D.nx σ H) :
    tFor (fun _ H R => R (Itl K a) H) g tb D σ H := for_list Pv h0 hl hs hd
/-- all but u stands as it stood -/
def But (u : Addr) (H H' : Hp) : Prop := ∀ b o, b ≠ u → H b = some o → H' b = some o
theorem But.refl {u : Addr} {H : Hp} : But u H H := fun _ _ _ e => e
theorem But.trans {u : Addr} {H H1 H2 : Hp} (a : But u H H1) (b : But u H1 H2) : But u H H2 := fun c o n e => b c o n (a c o n e)
theorem But.same {u : Addr} {H H1 : Hp} (a : Same H H1) : But u H H1 := fun c o _ e => a c o e
theorem same_new {H : Hp} {p : Addr} {o : HO} (n : H p = none) : Same H (upd H p o) := fun b u e => by rw [upd_ne (ne_of_none e n)]; exact e
theorem But.put {u : Addr} {H : Hp} {o : HO} : But u H (upd H u o) := fun b _ n e => by rw [upd_ne n]; exact e
theorem some_or {H : Hp} {a b : Addr} {o : HO} (h : H a = some o) (n : H b = none) : a ≠ b := ne_of_none h n
/-- the callee as its callers know it -/
structure Cal (P : Program) (w : World) (K : PySem.W.Frag) (mg : Str → Option Value) (base : Heap) (CX : CXT) (k : Nat) (x : Str) (ps : List Str) (sp : Sp) (f : Addr) (fd : FuncData) : Prop where
  g : mg x = some (.ref f)
  kp : PySem.W.keepIn K (.ref f) = true
  b : Binds K fd ps []
  F : FnOk P w K mg base CX k f fd ps sp
structure CalG (P : Program) (w : World) (K : PySem.W.Frag) (mg : Str → Option Value) (base : Heap) (CX : CXT) (k : Nat) (x : Str) (ps : List Str) (sp : Sp) (f : Addr) (fd : FuncData) : Prop where
  g : mg x = some (.ref f)
  kp : PySem.W.keepIn K (.ref f) = true
  b : Binds K fd ps []
  F : Ga.FnG P w K mg base CX k f fd ps sp
/-! ### an own error with one field -/
structure Er (K : PySem.W.Frag) (mg : Str → Option Value) (x n : Str) (C fI : Addr) (fdI : FuncData) : Prop where
  gC : mg x = some (.ref C)
  oex : OexC K C
  noN : PySem.W.findIn K (.ref C) n = some none
  iC : PySem.W.findIn K (.ref C) "__init__" = some (some (.ref fI))
  tI : PySem.W.typeIn K (.ref fI) = some (.type "function")
  dn : (n == ("__debug__" : Str)) = false
  dc : (n == ("__classdict__" : Str)) = false
  F : ∃ (qual : Str) (params : Arguments) (scope : Scope) (q1 q2 q3 q4 : Pos), FunD K "__init__" qual params [.Assign [.Attribute (.Name "self" q1) n q2] (.Name n q3) q4] scope [] [] fI fdI ∧ FnScope ["self", n] ["self", n] scope
  b : Binds K fdI ["self", n] []
section
variable {P : Program} {w : World} {K : PySem.W.Frag} {mg : Str → Option Value} {base : Heap} {x n : Str} {C fI : Addr} {fdI : FuncData}
def spInitE (K : PySem.W.Frag) (n : Str) (C : Addr) : Sp := fun vs H Q _ => ∃ (a : Addr) (v : V), vs = [.ref a, v] ∧ H a = some (exo a C none) ∧ ∀ dx, H dx = none → dx ≠ a → Q .non (upd (upd H dx (exd dx [(n, v)])) a (exo a C (some dx)))
theorem ok_initE (R : Er K mg x n C fI fdI) : FnOk P w K mg base CX0 1 fI fdI ["self", n] (spInitE K n C) := by
  obtain ⟨qual, params, scope, q1, q2, q3, q4, F, S⟩ := R.F
  refine F.ok S (fun vs H Q E h => ?_) (fun cdv A outer s H vs Q E hr h => ?_)
  · obtain ⟨a, v, rfl, _⟩ := h
    rfl
  · obtain ⟨a, v, rfl, ha, k⟩ := h
    have vis : ∀ y ∈ (["self", n] : List Str), scope.names.lookup y = some .local ∨ scope.names.lookup y = some .cell ∨ scope.names.lookup y = some .free := fun y hy => (S.par y hy).elim .inl fun z => .inr (.inl z)
    refine ⟨_, pss_one (ps_ost (pe_var (i := 0) rfl (vis _ (by simp))) (pe_var (i := 1) rfl (vis _ (by simp)) R.dn R.dc)), ?_⟩
    exact ⟨_, rfl, _, rfl, a, C, rfl, R.oex, R.noN, .inl ⟨ha, fun dx h1 h2 => k dx h1 h2⟩⟩
end
/-- raise X(e) -/
def tRaise (C : Addr) (n : Str) (W : WX) (te : TE) : TS := fun _ σ H => te σ H fun x H1 => ∀ d, H1 d = none → W (.ref C) (some d) σ (upd H1 d (.xd [(n, x)]))
theorem tRaise_ {C : Addr} {n : Str} {W : WX} {te : TE} {D : Ends} {σ : L2.St} {H : Hp} : tRaise C n W te D σ H = te σ H fun x H1 => ∀ d, H1 d = none → W (.ref C) (some d) σ (upd H1 d (.xd [(n, x)])) := rfl
theorem tCallS_ {sp : Sp} {E : L2.St → XK} {t : TA} {σ : L2.St} {H : Hp} {Q : VK} : tCallS sp E t σ H Q = t σ H fun vs H1 => sp vs H1 Q (E σ) := rfl
theorem mono_var {i : Nat} : ∀ σ H Q Q', (∀ x H1, Q x H1 → Q' x H1) → tVar i σ H Q → tVar i σ H Q' := fun _ _ _ _ f ⟨v, e, q⟩ => ⟨v, e, f _ _ q⟩
theorem ps_raiseE {X : Cx} {x n : Str} {C fI : Addr} {fdI : FuncData} {W : WX} {a : Expr} {te : TE} {p pos pos2 : Pos} {k : Nat} (hc : X.calm = true) (R : Er X.K X.mg x n C fI fdI) (hr : Room (k + 2) X.A) (tk : Takes X W) (ha : PE X a te)
    (mono : ∀ σ H Q Q', (∀ x H1, Q x H1 → Q' x H1) → te σ H Q → te σ H Q')
    (hg : Gl X x := by rfl) (hd : (x == ("__debug__" : Str)) = false := by decide) (he : starEach (a :: []) X.env = (false, eval a X.env) :: starEach [] X.env := by rfl) (hpl : (backTo pos (starEach [] X.env)).any (·.1) = false := by rfl) :
    PS X (.Raise (some (.Call (.Name x p) [a] [] pos)) none pos2) (tRaise C n W te) := by
  have G : FnOk X.prog X.w X.K X.mg X.base CX0 1 fI fdI ["self", n] (spInitE X.K n C) := ok_initE R
  have h := ps_raise (pos := pos2) hc tk (pmk_oex (p := p) (pos := pos) R.oex R.iC R.tI G (hr.mono (by omega)) R.b .nil (fun _ _ _ _ _ _ _ z => z.elim) hg R.gC (pa_cons ha pa_nil he) hd he hpl)
  refine ⟨fun pins s σ H D I q => h.run pins s σ H D I ?_⟩
  refine mono σ H _ _ (fun x H1 q1 => ?_) q
  refine ⟨by show 1 ≤ 1000; decide, fun b hb => ⟨b, x, rfl, upd_same, fun dx h1 h2 => ⟨rfl, dx, [(n, x)], upd_same, ?_, ?_, ?_⟩⟩⟩
  · rw [upd_ne h2, upd_same]
  · rw [upd_ne h2] at h1; exact h1
  · have h3 : H1 dx = none := by rw [upd_ne h2] at h1; exact h1
    have e : upd (del (upd (upd (upd H1 b (exo b C none)) dx (exd dx [(n, x)])) b (exo b C (some dx))) b) dx (.xd [(n, x)]) = upd H1 dx (.xd [(n, x)]) := by
      funext c
      by_cases c1 : c = dx
      · rw [c1, upd_same, upd_same]
      · rw [upd_ne c1, upd_ne c1]
        by_cases c2 : c = b
        · rw [c2, del_same, hb]
        · rw [del_ne c2, upd_ne c2, upd_ne c1, upd_ne c2]
    rw [e]
    exact q1 dx h3
/-- plain values that the checks here meet: ints, bools, None, texts, the empty tuple -/
inductive Smp (H : Hp) : V → Prop
  | non : Smp H .non
  | bl (b : Bool) : Smp H (.bl b)
  | int (i : Int) : Smp H (.int i)
  | str (x : Str) : Smp H (.str x)
  | tup {a : Addr} (h : H a = some (.tup [])) : Smp H (.ref a)
theorem Smp.up {H H' : Hp} {v : V} (h : Smp H v) (s : ∀ a, H a = some (.tup []) → H' a = some (.tup [])) : Smp H' v := by
  cases h with
  | non => exact .non
  | bl b => exact .bl b
  | int i => exact .int i
  | str x => exact .str x
  | tup h => exact .tup (s _ h)
def wholeB : V → Bool
  | .int _ => true
  | _ => false
def iv : V → Int
  | .int i => i
  | _ => 0
def btw (x : V) (lo hi : Int) : Bool := wholeB x && (decide (lo ≤ iv x) && decide (iv x ≤ hi))
theorem btw_int {i lo hi : Int} : btw (.int i) lo hi = (decide (lo ≤ i) && decide (i ≤ hi)) := by unfold btw; rfl
theorem btw_int' {i lo hi : Int} (h1 : lo ≤ i) (h2 : i ≤ hi) : btw (.int i) lo hi = true := by rw [btw_int, decide_eq_true h1, decide_eq_true h2]; rfl
theorem btw_of {x : V} {lo hi : Int} (h : btw x lo hi = true) : ∃ i, x = .int i ∧ lo ≤ i ∧ i ≤ hi := by
  cases x with
  | int i =>
    rw [btw_int, Bool.and_eq_true] at h
    exact ⟨i, rfl, of_decide_eq_true h.1, of_decide_eq_true h.2⟩
  | _ => cases h
/-! ### f(k = v, ..) -/
def tCallK (sp : Sp) (gV : List V → List V) (m : Nat) (E : XK) (tk : TA) : TE := fun σ H Q => tk σ H fun zs H1 => zs.length = m ∧ sp (gV zs) H1 Q E
theorem tCallK_ {sp : Sp} {gV : List V → List V} {m : Nat} {E : XK} {tk : TA} {σ : L2.St} {H : Hp} {Q : VK} : tCallK sp gV m E tk σ H Q = tk σ H fun zs H1 => zs.length = m ∧ sp (gV zs) H1 Q E := rfl
section
variable {X : Cx} {CX : CXT} {k : Nat} {f : Addr} {fd : FuncData} {ps ks : List Str} {sp : Sp} {E : XK} {x : Str} {p pos : Pos} {kws : List Keyword} {tk : TA} {g : List Value → List Value} {gV : List V → List V}
theorem pe_callKw (F : FnOk X.prog X.w X.K X.mg X.base CX k f fd ps sp) (hr : Room k X.A) (hg : Gl X x) (hm : X.mg x = some (.ref f)) (hk : PySem.W.keepIn X.K (.ref f) = true)
    (hb : KBn X.K fd ps 0 ks (fun _ ws => g ws) (fun _ zs => gV zs)) (hx : Passes CX X E) (hkw : PK X kws tk)
    (hall : (backToKw pos (keywordEach kws X.env)).all (·.1.isSome) = true := by rfl) (hks : (backToKw pos (keywordEach kws X.env)).filterMap (·.1) = ks := by rfl)
    (hdb : (x == ("__debug__" : Str)) = false := by decide)
    (hpl : ((backTo pos (starEach [] X.env)).any (·.1) || (backToKw pos (keywordEach kws X.env)).any (·.1.isNone)) = false := by rfl) :
    PE X (.Call (.Name x p) [] kws pos) (tCallK sp gV ks.length E tk) := by
  constructor
  intro pins s σ H Q I h
  refine wpAny_Call_Name_kw (ld_glob I hg hm ?_ hdb)
  refine PySem.W.callWith_KW0 (h₀ := X.base) I.ok.mod.kin hk hall ?_ hpl
  refine thn (hkw.run pos pins s σ H _ I h) ?_
  rintro ws s2 ⟨zs, H2, I2, rz, l2, q2⟩
  refine ⟨I2.kIn, ?_⟩
  rw [hks]
  exact run_fnN (us := []) (vs := []) F hr hb hx I2 .nil rz rfl l2 q2
end
theorem kbn0 {K : PySem.W.Frag} {x qual : Str} {params : Arguments} {body : List Stmt} {scope : Scope} {f : Addr} {fd : FuncData} {ps : List Str} (F : FunD K x qual params body scope [] [] f fd) (ks : List Str) (g : {α : Type} → List α → List α)
    (hrel : ∀ {vs : List V} {us : List Value}, Vals vs us → Vals (g vs) (g us))
    (h : ∀ (kV doc pm : Value) (an : Option Addr) (cdv ct : Value) (ws : List Value), ws.length = ks.length → bindArgs (PySem.W.fnOf x qual params body scope .none kV doc pm an cdv ct) ⟨[], ks.zip ws⟩ = pure (ps.zip (g ws))) :
    KBn K fd ps 0 ks (fun _ ws => g ws) (fun _ zs => g zs) := by
  obtain ⟨oc, od, dV, kV, doc, pm, an, cdv, ct, sl, e, lk, hcd, hD, hK⟩ := F.ex
  rcases hD with ⟨_, e2⟩ | ⟨z, _⟩
  · subst e2 e
    refine ⟨fun s us ws X l1 l2 => ?_, fun _ r => hrel r⟩
    obtain rfl : us = [] := List.eq_nil_of_length_eq_zero l1
    exact .of_eq (h kV doc pm an cdv ct ws l2)
  · exact absurd rfl z
theorem gUnl_ {K : PySem.W.Frag} {n : Nat} {g : TGs} {v : V} {σ : L2.St} {H : Hp} {QS : L2.St → Hp → Prop} : gUnl K n g v σ H QS = ∃ a xs, v = .ref a ∧ SqL K H a xs ∧ xs.length = n ∧ g xs σ H QS := rfl
theorem sIx_none {n d : Nat} : HT.sIx n d none = d := rfl
/-- one statement at a time -/
theorem sq {t u : TS} {D : Ends} {σ : L2.St} {H : Hp} (h : ∀ U : L2.St → Hp → Prop, (∀ σ' H', u D σ' H' → U σ' H') → t { D with nx := U } σ H) : tSeq t u D σ H := h (u D) fun _ _ x => x
theorem ite2n {a b A B : Prop} [Decidable a] [Decidable b] (h : ¬ (a ∧ b)) (hB : B) : if a then (if b then A else B) else B := by
  by_cases ha : a
  · rw [if_pos ha, if_neg (fun hb => h ⟨ha, hb⟩)]; exact hB
  · rw [if_neg ha]; exact hB
section
variable {H : Hp} {Q : VK} {i j : Int} {a b : Str} {c e : Bool}
theorem eq_ii : rEq (.int i) (.int j) H Q = Q (.bl (decide (i = j))) H := by
  have h : decide (V.int i = V.int j) = decide (i = j) := by simp
  show (_ ∧ Q (.bl (decide (V.int i = V.int j))) H) = _
  rw [h]; simp [scal]
theorem ne_ii : rNe (.int i) (.int j) H Q = Q (.bl (!decide (i = j))) H := by
  have h : decide (V.int i = V.int j) = decide (i = j) := by simp
  show (_ ∧ Q (.bl (!decide (V.int i = V.int j))) H) = _
  rw [h]; simp [scal]
theorem eq_ss : rEq (.str a) (.str b) H Q = Q (.bl (decide (a = b))) H := by
  have h : decide (V.str a = V.str b) = decide (a = b) := by simp
  show (_ ∧ Q (.bl (decide (V.str a = V.str b))) H) = _
  rw [h]; simp [scal]
theorem ne_ss : rNe (.str a) (.str b) H Q = Q (.bl (!decide (a = b))) H := by
  have h : decide (V.str a = V.str b) = decide (a = b) := by simp
  show (_ ∧ Q (.bl (!decide (V.str a = V.str b))) H) = _
  rw [h]; simp [scal]
theorem eq_bb : rEq (.bl c) (.bl e) H Q = Q (.bl (decide (c = e))) H := by
  have h : decide (V.bl c = V.bl e) = decide (c = e) := by simp
  show (_ ∧ Q (.bl (decide (V.bl c = V.bl e))) H) = _
  rw [h]; simp [scal]
theorem ne_bb : rNe (.bl c) (.bl e) H Q = Q (.bl (!decide (c = e))) H := by
  have h : decide (V.bl c = V.bl e) = decide (c = e) := by simp
  show (_ ∧ Q (.bl (!decide (V.bl c = V.bl e))) H) = _
  rw [h]; simp [scal]
end
theorem rGcd_ {vs : List V} {H : Hp} {Q : VK} : rGcd vs H Q = ∃ a b : Int, vs = [.int a, .int b] ∧ Q (.int ((Nat.gcd a.natAbs b.natAbs : Nat) : Int)) H := rfl
theorem max_if {a b : Int} : (if b > a then b else a) = max a b := by
  by_cases h : b > a
  · rw [if_pos h]; omega
  · rw [if_neg h]; omega
section
variable {K : PySem.W.Frag} {H : Hp} {Q : VK} {x y : V}
theorem rIxL_ : rIxL K x y H Q = ∃ p xs i v, x = .ref p ∧ y = .int i ∧ SqL K H p xs ∧ atI xs i = some v ∧ Q v H := rfl
theorem rIxT_ : rIxT K x y H Q = ∃ p xs i v, x = .ref p ∧ y = .int i ∧ SqT K H p xs ∧ atI xs i = some v ∧ Q v H := rfl
theorem rSlL_ {lo hi : Option Int} : rSlL K x lo hi H Q = ∃ a xs, x = .ref a ∧ SqL K H a xs ∧ ∀ p, H p = none → Q (.ref p) (upd H p (.lst (cutV xs lo hi))) := rfl
theorem rCat_ : rCat x y H Q = ∃ l b xs zs, x = .ref l ∧ y = .ref b ∧ H l = some (.lst xs) ∧ H b = some (.lst zs) ∧ xs.length + zs.length ≤ sizeLine ∧ ∀ p, H p = none → Q (.ref p) (upd H p (.lst (xs ++ zs))) := rfl
theorem rSetL_ {o i v : V} {Q : Hp → Prop} : rSetL o i v H Q = ∃ p xs k j, o = .ref p ∧ i = .int k ∧ H p = some (.lst xs) ∧ ixN xs.length k = some j ∧ Q (upd H p (.lst (xs.set j v))) := rfl
theorem atI_nn {α : Type} {xs : List α} {i : Int} {v : α} (h0 : 0 ≤ i) (h : xs[i.toNat]? = some v) : atI xs i = some v := by
  have hl : i.toNat < xs.length := (List.getElem?_eq_some_iff.mp h).1
  unfold atI ixN
  rw [if_pos h0, if_pos (by omega)]
  exact h
end
theorem rRep_ {x y : V} {H : Hp} {Q : VK} : rRep x y H Q = ∃ l k xs, x = .ref l ∧ y = .int k ∧ H l = some (.lst xs) ∧ -(2 ^ 63) ≤ k ∧ k < 2 ^ 63 ∧ xs.length * k.toNat ≤ sizeLine ∧ ∀ p, H p = none → Q (.ref p) (upd H p (.lst (List.replicate k.toNat xs).flatten)) := rfl
end Rd

set_option Elab.async false
set_option linter.all false
set_option maxRecDepth 100000
set_option maxHeartbeats 2000000
/-! data: what is compared and shown -/
namespace Dt
open PySem PySem.Spec PyProof.Rows L2 Rd
/-- data of a bounded text -/
structure Fit (d : PyData) (k n : Nat) : Prop where
  s : d.showable = true
  h : d.hasDict = false
  dp : d.depth ≤ k
  sz : d.shown.length ≤ n
  c : d.canLay0 = true
theorem Fit.mono {d : PyData} {k n k' n' : Nat} (f : Fit d k n) (h1 : k ≤ k') (h2 : n ≤ n') : Fit d k' n' := ⟨f.s, f.h, Nat.le_trans f.dp h1, Nat.le_trans f.sz h2, f.c⟩
theorem Fit.non : Fit .none 0 5 := ⟨rfl, rfl, Nat.le_refl _, by show (PyData.shown .none).length ≤ 5; unfold PyData.shown; decide +kernel, rfl⟩
theorem Fit.bl (b : Bool) : Fit (.bool b) 0 5 := ⟨rfl, rfl, Nat.le_refl _, by unfold PyData.shown; cases b <;> decide +kernel, rfl⟩
theorem Fit.int {i : Int} {k : Nat} (h0 : 0 < k) (h9 : k ≤ 1919) (h : i.natAbs < 2 ^ k) : Fit (.int i) 0 (k + 1) := by
  have lg : i.natAbs.log2 < k := by
    by_cases z : i.natAbs = 0
    · rw [z]; show Nat.log2 0 < k; rw [Nat.log2_zero]; exact h0
    · exact (Nat.log2_lt z).mpr h
  refine ⟨?_, rfl, Nat.le_refl _, ?_, rfl⟩
  · show decide (i.natAbs.log2 < 1920) = true
    exact decide_eq_true (by omega)
  · have e : (PyData.shown (.int i)) = Str.ofString (toString i) := by unfold PyData.shown; rfl
    rw [e, PySem.ofString_length]
    exact int_text_length_le h0 lg
theorem sum_le {α : Type} (f : α → Nat) (n : Nat) : ∀ l : List α, (∀ x ∈ l, f x ≤ n) → (l.map f).sum ≤ l.length * n
  | [], _ => by simp
  | x :: l, h => by
    have h1 := h x List.mem_cons_self
    have h2 := sum_le f n l fun y hy => h y (List.mem_cons_of_mem _ hy)
    rw [List.map_cons, List.sum_cons, List.length_cons, Nat.add_mul, Nat.one_mul]
    omega
theorem fitAll {k n : Nat} : ∀ {ds : List PyData}, (∀ d ∈ ds, Fit d k n) → PyData.showableAll ds = true ∧ PyData.hasDictAll ds = false ∧ PyData.depthAll ds ≤ k ∧ (∀ t ∈ PyData.shownAll ds, t.length ≤ n) ∧ (PyData.shownAll ds).length = ds.length ∧ PyData.canLayAll0 ds = true
  | [], _ => ⟨rfl, rfl, Nat.zero_le _, fun t ht => (by rw [PyData.shownAll] at ht; cases ht), (by rw [PyData.shownAll]; rfl), rfl⟩
  | d :: ds, h => by
    have f := h d List.mem_cons_self
    obtain ⟨a, b, c, e, g, l⟩ := fitAll fun x hx => h x (List.mem_cons_of_mem _ hx)
    refine ⟨by rw [PyData.showableAll, f.s, a]; rfl, by rw [PyData.hasDictAll, f.h, b]; rfl, by rw [PyData.depthAll]; have := f.dp; omega, ?_, by rw [PyData.shownAll, List.length_cons, List.length_cons, g], by rw [PyData.canLayAll0, f.c, l]; rfl⟩
    intro t ht
    rw [PyData.shownAll] at ht
    rcases List.mem_cons.mp ht with z | z
    · rw [z]; exact f.sz
    · exact e t z
theorem Fit.list {ds : List PyData} {k n : Nat} (h : ∀ d ∈ ds, Fit d k n) : Fit (.list ds) (k + 1) (ds.length * (n + 2) + 3) := by
  obtain ⟨a, b, c, e, g, l⟩ := fitAll h
  refine ⟨by rw [PyData.showable, a], by rw [PyData.hasDict, b], by rw [PyData.depth]; omega, ?_, by rw [PyData.canLay0, l]⟩
  rw [PyData.shown]
  have h1 := listText_len_le (PyData.shownAll ds)
  have h2 := sum_le (·.length) n (PyData.shownAll ds) e
  rw [g] at h1 h2
  rw [Nat.mul_add]
  omega
theorem Fit.tuple {ds : List PyData} {k n : Nat} (h : ∀ d ∈ ds, Fit d k n) : Fit (.tuple ds) (k + 1) (ds.length * (n + 2) + 3) := by
  obtain ⟨a, b, c, e, g, l⟩ := fitAll h
  refine ⟨by rw [PyData.showable, a], by rw [PyData.hasDict, b], by rw [PyData.depth]; omega, ?_, by rw [PyData.canLay0, l]⟩
  rw [PyData.shown]
  have h1 := tupleText_len_le (PyData.shownAll ds)
  have h2 := sum_le (·.length) n (PyData.shownAll ds) e
  rw [g] at h1 h2
  rw [Nat.mul_add]
  omega
theorem Fit.str {x : Str} {n : Nat} (h : x.length ≤ n) (hc : ∀ c ∈ x.cps.toList, c < 0x110000) : Fit (.str x) 0 (10 * n + 2) := by
  have e : PyData.shown (.str x) = reprText x := by unfold PyData.shown; rfl
  refine ⟨rfl, rfl, Nat.le_refl _, ?_, ?_⟩
  · rw [e]
    have := StrLaws.reprText_len x fun c hc' => Nat.lt_trans (hc c hc') (by decide)
    omega
  · show x.cps.all (· < 0x110000) = true
    rw [← Array.all_toList, List.all_eq_true]
    intro c hc'
    exact decide_eq_true (hc c hc')
theorem Fit.shaped {d : PyData} {k n : Nat} (f : Fit d k n) (h : k ≤ 64) : SeqAt.shaped d = true := by
  have := f.dp
  show (d.canLay0 && decide (d.depth ≤ 64)) = true
  rw [f.c, decide_eq_true (show d.depth ≤ 64 by omega)]; rfl
/-- repr of such data -/
theorem rRepr_fit {K : PySem.W.Frag} {H : Hp} {Q : VK} {x : V} {d : PyData} {k n : Nat} (f : Fit d k n) (hk : k ≤ 50) (hn : n ≤ 1000000) (dd : Dp K H x d) (q : Q (.str d.shown) H) : Ga.rRepr K [x] H Q := by
  have := f.dp
  have := f.sz
  refine ⟨x, d, rfl, dd, f.s, f.h, by omega, Nat.le_trans (Nat.le_trans f.sz hn) (by rw [sizeLine_eq]; decide), ?_, q⟩
  intro i e
  have z := f.s
  rw [e] at z
  exact of_decide_eq_true z
theorem Dp.ints {K : PySem.W.Frag} {H : Hp} : ∀ (ns : List Int), DpAll K H (ns.map V.int) (ns.map PyData.int)
  | [] => .nil
  | n :: ns => .cons (.int n) (Dp.ints ns)
mutual
theorem Dp.up {K : PySem.W.Frag} {H H' : Hp} (hs : Same H H') : ∀ (d : PyData) (v : V), Dp K H v d → Dp K H' v d
  | .none, _, h => by cases h; exact .non
  | .bool b, _, h => by cases h; exact .bl b
  | .int b, _, h => by cases h; exact .int b
  | .str b, _, h => by cases h; exact .str b
  | .dict b, _, h => by cases h
  | .list ds, _, h => by
    cases h with
    | lst a b => exact .lst (hs.seq a) (DpAll.up hs ds _ b)
  | .tuple ds, _, h => by
    cases h with
    | tup a b =>
      refine .tup ?_ (DpAll.up hs ds _ b)
      rcases a with (a | ⟨o, a⟩) | a
      · exact .inl (.inl (hs _ _ a))
      · exact .inl (.inr ⟨o, hs _ _ a⟩)
      · exact .inr a
theorem DpAll.up {K : PySem.W.Frag} {H H' : Hp} (hs : Same H H') : ∀ (ds : List PyData) (vs : List V), DpAll K H vs ds → DpAll K H' vs ds
  | [], _, h => by cases h; exact .nil
  | d :: ds, _, h => by
    cases h with
    | cons a b => exact .cons (Dp.up hs d _ a) (DpAll.up hs ds _ b)
end
theorem eqv_ints : ∀ xs ys : List Int, PyData.eqvAll (xs.map .int) (ys.map .int) = decide (xs = ys)
  | [], [] => rfl
  | [], _ :: _ => by simp [PyData.eqvAll]
  | _ :: _, [] => by simp [PyData.eqvAll]
  | x :: xs, y :: ys => by
    rw [List.map_cons, List.map_cons, PyData.eqvAll, eqv_ints xs ys, PyData.eqv]
    by_cases h : x = y
    · subst h; simp
    · simp [h]
theorem eqv_listI (xs ys : List Int) : PyData.eqv (.list (xs.map .int)) (.list (ys.map .int)) = decide (xs = ys) := by rw [PyData.eqv, eqv_ints]
theorem fit_ints {ns : List Int} {k : Nat} (h0 : 0 < k) (h9 : k ≤ 1919) (h : ∀ n ∈ ns, n.natAbs < 2 ^ k) : Fit (.list (ns.map .int)) 1 (ns.length * (k + 3) + 3) := by
  have := Fit.list (ds := ns.map PyData.int) (k := 0) (n := k + 1) (fun d hd => by
    obtain ⟨n, hn, rfl⟩ := List.mem_map.mp hd
    exact Fit.int h0 h9 (h n hn))
  rwa [List.length_map] at this
theorem rNeD_ {K : PySem.W.Frag} {H : Hp} {Q : VK} {x y : V} {d e : PyData} {k n k' n' : Nat} (fd : Fit d k n) (fe : Fit e k' n') (hk : k ≤ 64) (hk' : k' ≤ 64) (hd : Dp K H x d) (he : Dp K H y e) (q : Q (.bl (!PyData.eqv d e)) H) : rNeD K x y H Q :=
  ⟨d, e, hd, he, fd.shaped hk, fe.shaped hk', q⟩
theorem rEqD_ {K : PySem.W.Frag} {H : Hp} {Q : VK} {x y : V} {d e : PyData} {k n k' n' : Nat} (fd : Fit d k n) (fe : Fit e k' n') (hk : k ≤ 64) (hk' : k' ≤ 64) (hd : Dp K H x d) (he : Dp K H y e) (q : Q (.bl (PyData.eqv d e)) H) : rEqD K x y H Q :=
  ⟨d, e, hd, he, fd.shaped hk, fe.shaped hk', q⟩
section
variable {K : PySem.W.Frag} {H : Hp} {σ : L2.St} {Q : VK} {g : TG} {tt : TT} {te : TE} {vs : List Nat} {TA1 : TA} {ta : TE}
theorem wipe0 : wipe σ [] = σ := rfl
theorem wipe1 {v : Nat} {vs : List Nat} : wipe σ (v :: vs) = (wipe σ vs).set v none := rfl
theorem tLc_range1 : tLc (iRng1 TA1) g tt te vs σ H Q = TA1 σ H fun ws H1 => ∃ j : Int, ws = [.int j] ∧ -(2 ^ 62) ≤ j ∧ j < 2 ^ 62 ∧ tLc (fun _ H R => R (Itr 0 j.toNat) H) g tt te vs σ H1 Q := rfl
theorem tLc_range2 : tLc (iRng2 TA1) g tt te vs σ H Q = TA1 σ H fun ws H1 => ∃ i j : Int, ws = [.int i, .int j] ∧ (-(2 ^ 62) ≤ i ∧ i < 2 ^ 62 ∧ -(2 ^ 62) ≤ j ∧ j < 2 ^ 62) ∧ tLc (fun _ H R => R (Itr i (j - i).toNat) H) g tt te vs σ H1 Q := rfl
theorem tLc_list : tLc (iList K ta) g tt te vs σ H Q = ta σ H fun x H1 => ∃ a, x = .ref a ∧ (∃ xs, SqL K H1 a xs) ∧ tLc (fun _ H R => R (Itl K a) H) g tt te vs σ H1 Q := rfl
theorem tLc_tup : tLc (iTup K ta) g tt te vs σ H Q = ta σ H fun x H1 => ∃ a, x = .ref a ∧ (∃ xs, SqT K H1 a xs) ∧ tLc (fun _ H R => R (Itt K a) H) g tt te vs σ H1 Q := rfl
theorem tYes_ {QB : Bool → Hp → Prop} : tYes σ H QB = QB true H := rfl
/-- what a turn of a comprehension asks -/
def Lturn (g : TG) (tt : TT) (te : TE) (vs : List Nat) (σ : L2.St) (D : Addr) (x : V) (H : Hp) (Nx : Hp → Prop) : Prop := g x (wipe σ vs) H fun σ2 H2 => wipe σ2 vs = wipe σ vs ∧ tt σ2 H2 fun b H3 =>
  if b = true then te σ2 H3 fun y H4 => ∃ acc, H4 D = some (.lst acc) ∧ acc.length < sizeLine ∧ Nx (upd H4 D (.lst (acc ++ [y]))) else Nx H3
theorem lc_r {lo : Int} {n : Nat} (Pv : Addr → Nat → Hp → Prop) (h : ∀ D, H D = none → Pv D 0 (upd H D (.lst [])) ∧ (∀ i H', i < n → Pv D i H' → Lturn g tt te vs σ D (.int (lo + i)) H' (Pv D (i + 1))) ∧ (∀ H', Pv D n H' → Q (.ref D) H')) :
    tLc (fun _ H R => R (Itr lo n) H) g tt te vs σ H Q := fun D hD => lc_range (Pv D) (h D hD).1 (h D hD).2.1 (h D hD).2.2
theorem lc_l {a : Addr} {xs : List V} (Pv : Addr → Nat → Hp → Prop) (h : ∀ D, H D = none → Pv D 0 (upd H D (.lst [])) ∧ (∀ i H', i ≤ xs.length → Pv D i H' → SqL K H' a xs) ∧ (∀ i x H', xs[i]? = some x → Pv D i H' → Lturn g tt te vs σ D x H' (Pv D (i + 1))) ∧ (∀ H', Pv D xs.length H' → Q (.ref D) H')) :
    tLc (fun _ H R => R (Itl K a) H) g tt te vs σ H Q := fun D hD => lc_list (xs := xs) (Pv D) (h D hD).1 (h D hD).2.1 (h D hD).2.2.1 (h D hD).2.2.2
theorem lc_t {a : Addr} {xs : List V} (Pv : Addr → Nat → Hp → Prop) (h : ∀ D, H D = none → Pv D 0 (upd H D (.lst [])) ∧ (∀ i H', i ≤ xs.length → Pv D i H' → SqT K H' a xs) ∧ (∀ i x H', xs[i]? = some x → Pv D i H' → Lturn g tt te vs σ D x H' (Pv D (i + 1))) ∧ (∀ H', Pv D xs.length H' → Q (.ref D) H')) :
    tLc (fun _ H R => R (Itt K a) H) g tt te vs σ H Q := fun D hD => lc_tup (xs := xs) (Pv D) (h D hD).1 (h D hD).2.1 (h D hD).2.2.1 (h D hD).2.2.2
end
end Dt

set_option Elab.async false
set_option linter.all false
set_option maxRecDepth 100000
set_option maxHeartbeats 2000000
/-! data in which an empty dict may lie -/
namespace Dq
open PySem PySem.Spec PyProof.Rows L2 Rd Dt
/-- what the head says of the modules' table -/
def SysD (K : PySem.W.Frag) : Prop := ∃ o : Obj, K.lookup sysModules = some o ∧ o.cls = .type "dict"
def smS (s : Str) : Bool := decide (s.length ≤ 10000) && PyData.strOk s
mutual
inductive Dq (K : PySem.W.Frag) (H : Hp) : V → PyData → Prop
  | non : Dq K H .non .none
  | bl (b : Bool) : Dq K H (.bl b) (.bool b)
  | int (i : Int) (h : i.natAbs < 1024) : Dq K H (.int i) (.int i)
  | str (x : Str) (h : smS x = true) : Dq K H (.str x) (.str x)
  | lst {a : Addr} {xs : List V} {ds : List PyData} : H a = some (.lst xs) → xs.length ≤ 1 → DqAll K H xs ds → Dq K H (.ref a) (.list ds)
  | tup {a : Addr} {xs : List V} {ds : List PyData} : H a = some (.tup xs) → DqAll K H xs ds → Dq K H (.ref a) (.tuple ds)
  | dic {a : Addr} : H a = some (.dK []) → Dq K H (.ref a) (.dict [])
inductive DqAll (K : PySem.W.Frag) (H : Hp) : List V → List PyData → Prop
  | nil : DqAll K H [] []
  | cons {v : V} {vs : List V} {d : PyData} {ds : List PyData} : Dq K H v d → DqAll K H vs ds → DqAll K H (v :: vs) (d :: ds)
end
variable {K : PySem.W.Frag} {H H' : Hp}
mutual
theorem Dq.ups {K : PySem.W.Frag} {H H' : Hp} (hs : ∀ a o, H a = some o → (∀ xs : List V, (o = .lst xs ∧ xs.length ≤ 1) ∨ o = .tup xs ∨ o = .dK [] → H' a = some o)) : ∀ (d : PyData) (v : V), Dq K H v d → Dq K H' v d
  | .none, _, h => by cases h; exact .non
  | .bool b, _, h => by cases h; exact .bl b
  | .int b, _, h => by cases h with | int _ h => exact .int b h
  | .str b, _, h => by cases h with | str _ h => exact .str b h
  | .dict b, _, h => by
    cases h with
    | dic a => exact .dic (hs _ _ a [] (.inr (.inr rfl)))
  | .list ds, _, h => by
    cases h with
    | lst a l b => exact .lst (hs _ _ a _ (.inl ⟨rfl, l⟩)) l (DqAll.ups hs ds _ b)
  | .tuple ds, _, h => by
    cases h with
    | tup a b => exact .tup (hs _ _ a _ (.inr (.inl rfl))) (DqAll.ups hs ds _ b)
theorem DqAll.ups {K : PySem.W.Frag} {H H' : Hp} (hs : ∀ a o, H a = some o → (∀ xs : List V, (o = .lst xs ∧ xs.length ≤ 1) ∨ o = .tup xs ∨ o = .dK [] → H' a = some o)) : ∀ (ds : List PyData) (vs : List V), DqAll K H vs ds → DqAll K H' vs ds
  | [], _, h => by cases h; exact .nil
  | d :: ds, _, h => by
    cases h with
    | cons a b => exact .cons (Dq.ups hs d _ a) (DqAll.ups hs ds _ b)
end
theorem Dq.up (hs : Same H H') {d : PyData} {v : V} (h : Dq K H v d) : Dq K H' v d := Dq.ups (fun a o e _ _ => hs a o e) d v h
theorem DqAll.up (hs : Same H H') {d : List PyData} {v : List V} (h : DqAll K H v d) : DqAll K H' v d := DqAll.ups (fun a o e _ _ => hs a o e) d v h
/-- data outlives what is done to other things -/
theorem Dq.keep {d : PyData} {v : V} (hs : ∀ a o, H a = some o → (∀ xs : List V, (o = .lst xs ∧ xs.length ≤ 1) ∨ o = .tup xs ∨ o = .dK [] → H' a = some o)) (h : Dq K H v d) : Dq K H' v d := Dq.ups hs d v h
theorem DqAll.keep {d : List PyData} {v : List V} (hs : ∀ a o, H a = some o → (∀ xs : List V, (o = .lst xs ∧ xs.length ≤ 1) ∨ o = .tup xs ∨ o = .dK [] → H' a = some o)) (h : DqAll K H v d) : DqAll K H' v d := DqAll.ups hs d v h
theorem DqAll.len : ∀ {vs : List V} {ds : List PyData}, DqAll K H vs ds → vs.length = ds.length
  | _, _, .nil => rfl
  | _, _, .cons _ h => congrArg (· + 1) h.len
theorem DqAll.at {vs : List V} {ds : List PyData} (h : DqAll K H vs ds) : ∀ {i : Nat} {d : PyData}, ds[i]? = some d → ∃ v, vs[i]? = some v ∧ Dq K H v d := by
  induction ds generalizing vs with
  | nil => intro i d e; cases i <;> cases e
  | cons x xs ih =>
    intro i d e
    cases h with
    | cons a b =>
      cases i with
      | zero => cases e; exact ⟨_, rfl, a⟩
      | succ i => exact ih b e
theorem DqAll.atV {vs : List V} {ds : List PyData} (h : DqAll K H vs ds) : ∀ {i : Nat} {v : V}, vs[i]? = some v → ∃ d, ds[i]? = some d ∧ Dq K H v d := by
  induction ds generalizing vs with
  | nil => intro i d e; cases h; cases i <;> cases e
  | cons x xs ih =>
    intro i d e
    cases h with
    | cons a b =>
      cases i with
      | zero => cases e; exact ⟨_, rfl, a⟩
      | succ i => exact ih b e
theorem DqAll.append {vs ws : List V} {ds es : List PyData} (h : DqAll K H vs ds) (g : DqAll K H ws es) : DqAll K H (vs ++ ws) (ds ++ es) := by
  induction ds generalizing vs with
  | nil => cases h; exact g
  | cons x xs ih =>
    cases h with
    | cons a b => exact .cons a (ih b)
theorem DqAll.take {vs : List V} {ds : List PyData} (h : DqAll K H vs ds) : ∀ n, DqAll K H (vs.take n) (ds.take n) := by
  induction ds generalizing vs with
  | nil => intro n; cases h; simp; exact .nil
  | cons x xs ih =>
    intro n
    cases h with
    | cons a b =>
      cases n with
      | zero => exact .nil
      | succ n => exact .cons a (ih b n)
theorem DqAll.drop {vs : List V} {ds : List PyData} (h : DqAll K H vs ds) : ∀ n, DqAll K H (vs.drop n) (ds.drop n) := by
  induction ds generalizing vs with
  | nil => intro n; cases h; simp; exact .nil
  | cons x xs ih =>
    intro n
    cases h with
    | cons a b =>
      cases n with
      | zero => exact .cons a b
      | succ n => exact ih b n
mutual
theorem Dq.dp {K : PySem.W.Frag} {H : Hp} : ∀ (d : PyData) (v : V), d.hasDict = false → Dq K H v d → Dp K H v d
  | .none, _, _, h => by cases h; exact .non
  | .bool b, _, _, h => by cases h; exact .bl b
  | .int b, _, _, h => by cases h; exact .int b
  | .str b, _, _, h => by cases h; exact .str b
  | .dict b, _, n, h => by rw [PyData.hasDict] at n; cases n
  | .list ds, _, n, h => by
    rw [PyData.hasDict] at n
    cases h with
    | lst a _ b => exact .lst (SqL.of a) (DqAll.dp ds _ n b)
  | .tuple ds, _, n, h => by
    rw [PyData.hasDict] at n
    cases h with
    | tup a b => exact .tup (SqT.of a) (DqAll.dp ds _ n b)
theorem DqAll.dp {K : PySem.W.Frag} {H : Hp} : ∀ (ds : List PyData) (vs : List V), PyData.hasDictAll ds = false → DqAll K H vs ds → DpAll K H vs ds
  | [], _, _, h => by cases h; exact .nil
  | d :: ds, _, n, h => by
    rw [PyData.hasDictAll, Bool.or_eq_false_iff] at n
    cases h with
    | cons a b => exact .cons (Dq.dp d _ n.1 a) (DqAll.dp ds _ n.2 b)
end
section
variable {X : Cx} {pins : List (Addr × Obj)} {σ : L2.St} {s : Shared}
mutual
theorem Dq.reads (S : SysD X.K) (I : Inv X pins σ H s) : ∀ (d : PyData) (v : V) (u : Value), Dq X.K H v d → RelV v u → ∃ as, Reads s.heap u d as ∧ sysModules ∉ as
  | .none, _, _, h, r => by
    cases h; cases r
    exact ⟨_, Reads.none, List.not_mem_nil⟩
  | .bool b, _, _, h, r => by
    cases h; cases r
    exact ⟨_, Reads.bool b, List.not_mem_nil⟩
  | .int b, _, _, h, r => by
    cases h
    obtain ⟨t, rfl⟩ := r
    exact ⟨_, Reads.int b t, List.not_mem_nil⟩
  | .str b, _, _, h, r => by
    cases h
    obtain ⟨t, rfl⟩ := r
    exact ⟨_, Reads.str b t, List.not_mem_nil⟩
  | .list ds, _, _, h, r => by
    cases h with
    | lst hs _ ha =>
      cases r
      obtain ⟨its, rv, ⟨o, n, ho, hc, _, hd⟩, _⟩ := I.list (SqL.of hs)
      obtain ⟨as, hr, hn⟩ := DqAll.reads S I ds _ its ha rv
      refine ⟨_, Reads.list ho hc hd hr, fun z => ?_⟩
      rcases List.mem_cons.mp z with z | z
      · obtain ⟨o', k1, k2⟩ := S
        have e := I.kIn _ _ k1
        rw [z, ho] at e
        cases e
        exact absurd (Value.type.inj (hc.symm.trans k2)) (by decide)
      · exact hn z
  | .tuple ds, _, _, h, r => by
    cases h with
    | tup hs ha =>
      cases r
      obtain ⟨its, rv, ⟨o, ho, hc, n, hd⟩, _⟩ := I.tuple (SqT.of hs)
      obtain ⟨as, hr, hn⟩ := DqAll.reads S I ds _ its ha rv
      exact ⟨_, Reads.tuple ho hc hd hr, hn⟩
  | .dict ds, _, _, h, r => by
    cases h with
    | dic ha =>
      cases r
      obtain ⟨_, hne, vs, hkv, o, es, ep, h1, h2, h3, h4, h5, h6⟩ := dk_of I.hok ha
      cases hkv
      have e0 : es.toList = [] := by
        cases q : es.toList with
        | nil => rfl
        | cons x xs => rw [q] at h5; cases h5
      refine ⟨_, Reads.dict (es := es) (kvs := []) (as := []) (bs := []) h1 h2.1 h3 (by rw [e0]; exact ReadsAll.nil) (by rw [e0]; exact ReadsAll.nil), fun z => ?_⟩
      have z' : sysModules = _ := List.mem_singleton.mp (by simpa using z)
      rw [z'] at hne
      simp at hne
theorem DqAll.reads (S : SysD X.K) (I : Inv X pins σ H s) : ∀ (ds : List PyData) (vs : List V) (us : List Value), DqAll X.K H vs ds → Vals vs us → ∃ as, ReadsAll s.heap us ds as ∧ sysModules ∉ as
  | [], _, _, h, r => by
    cases h; cases r
    exact ⟨_, ReadsAll.nil, List.not_mem_nil⟩
  | d :: ds, _, _, h, r => by
    cases h with
    | cons h1 h2 =>
      cases r with
      | cons r1 r2 =>
        obtain ⟨as, q1, n1⟩ := Dq.reads S I d _ _ h1 r1
        obtain ⟨bs, q2, n2⟩ := DqAll.reads S I ds _ _ h2 r2
        refine ⟨_, ReadsAll.cons q1 q2, fun z => ?_⟩
        rcases List.mem_append.mp z with z | z
        · exact n1 z
        · exact n2 z
end
end
/-! ### sizes -/
mutual
def wt : PyData → Nat
  | .none | .bool _ | .int _ => 12
  | .str s => 10 * s.length + 12
  | .list ds | .tuple ds => 3 + wtAll ds
  | .dict _ => 12
def wtAll : List PyData → Nat
  | [] => 0
  | d :: ds => 2 + wt d + wtAll ds
end
theorem wtAll_append : ∀ ds es : List PyData, wtAll (ds ++ es) = wtAll ds + wtAll es
  | [], es => by rw [List.nil_append, wtAll, Nat.zero_add]
  | d :: ds, es => by rw [List.cons_append, wtAll, wtAll, wtAll_append ds es]; omega
theorem depthAll_append : ∀ ds es : List PyData, PyData.depthAll (ds ++ es) = max (PyData.depthAll ds) (PyData.depthAll es)
  | [], es => by rw [List.nil_append, PyData.depthAll, Nat.zero_max]
  | d :: ds, es => by rw [List.cons_append, PyData.depthAll, PyData.depthAll, depthAll_append ds es, Nat.max_assoc]
mutual
theorem Dq.size {K : PySem.W.Frag} {H : Hp} : ∀ (d : PyData) (v : V), Dq K H v d → d.showable = true ∧ d.shown.length ≤ wt d
  | .none, _, _ => ⟨rfl, Nat.le_trans Fit.non.sz (by rw [wt]; decide)⟩
  | .bool b, _, _ => ⟨rfl, Nat.le_trans (Fit.bl b).sz (by rw [wt]; decide)⟩
  | .int i, _, h => by
    cases h with
    | int _ h =>
      have := Fit.int (i := i) (k := 10) (by decide) (by decide) h
      exact ⟨this.s, Nat.le_trans this.sz (by rw [wt]; decide)⟩
  | .str s, _, h => by
    cases h with
    | str _ h =>
      obtain ⟨h1, h2⟩ := Bool.and_eq_true_iff.mp h
      have h3 : ∀ c ∈ s.cps.toList, c < 0x110000 := fun c hc => by
        have := List.all_eq_true.mp (show s.cps.toList.all (· < 0x110000) = true by rw [Array.all_toList]; exact h2) c hc
        exact of_decide_eq_true this
      have := Fit.str (x := s) (n := s.length) (Nat.le_refl _) h3
      refine ⟨rfl, Nat.le_trans this.sz ?_⟩
      rw [wt]; omega
  | .dict b, _, h => by
    cases h with
    | dic a => exact ⟨rfl, by rw [wt]; unfold PyData.shown; decide +kernel⟩
  | .list ds, _, h => by
    cases h with
    | lst a _ b =>
      obtain ⟨h1, h2, h3⟩ := DqAll.size ds _ b
      refine ⟨by rw [PyData.showable, h1], ?_⟩
      rw [PyData.shown, wt]
      have := listText_len_le (PyData.shownAll ds)
      omega
  | .tuple ds, _, h => by
    cases h with
    | tup a b =>
      obtain ⟨h1, h2, h3⟩ := DqAll.size ds _ b
      refine ⟨by rw [PyData.showable, h1], ?_⟩
      rw [PyData.shown, wt]
      have := tupleText_len_le (PyData.shownAll ds)
      omega
theorem DqAll.size {K : PySem.W.Frag} {H : Hp} : ∀ (ds : List PyData) (vs : List V), DqAll K H vs ds → PyData.showableAll ds = true ∧ ((PyData.shownAll ds).map (·.length)).sum + 2 * (PyData.shownAll ds).length ≤ wtAll ds ∧ True
  | [], _, _ => ⟨rfl, by rw [PyData.shownAll, wtAll]; decide, trivial⟩
  | d :: ds, _, h => by
    cases h with
    | cons a b =>
      obtain ⟨x1, x2⟩ := Dq.size d _ a
      obtain ⟨h1, h2, _⟩ := DqAll.size ds _ b
      refine ⟨by rw [PyData.showableAll, x1, h1]; rfl, ?_, trivial⟩
      rw [PyData.shownAll, wtAll, List.map_cons, List.sum_cons, List.length_cons]
      omega
end
/-! ### repr -/
def rReprQ (K : PySem.W.Frag) : List V → Hp → VK → Prop := fun xs H Q => ∃ (x : V) (d : PyData), xs = [x] ∧ Dq K H x d ∧ d.depth ≤ 50 ∧ wt d ≤ 1000000 ∧ Q (.str d.shown) H
theorem call_reprQ {X : Cx} {K : PySem.W.Frag} (hK : X.K = K) (S : SysD K) (hG : X.A.guards = some []) (hu : X.A.units + 64 < cLine) : CallR X (.builtin "repr") (rReprQ K) := by
  subst hK
  intro pins s σ H xs us Q I rv h
  obtain ⟨x, d, rfl, hd, hdp, hw, q⟩ := h
  obtain ⟨hs, hz'⟩ := hd.size
  have hz : d.shown.length ≤ sizeLine := Nat.le_trans (Nat.le_trans hz' hw) (by rw [sizeLine_eq]; decide)
  cases rv with
  | cons rx rn =>
    cases rn
    have fin : ∀ (tk : Nat) (u : Tok), EP X pins σ Q (.str d.shown u) { s with toks := tk } := fun tk u => ⟨.str d.shown, H, I.tok _, ⟨u, rfl⟩, q⟩
    obtain ⟨as, rd, hn⟩ := Dq.reads S I d x _ hd rx
    cases hd with
    | non => cases rx; exact PySem.P.repr_of_none (fin _ _)
    | bl b => cases rx; cases b <;> exact PySem.P.repr_of_bool (fin _ _)
    | int i _ =>
      obtain ⟨t, rfl⟩ := rx
      rw [PyData.showable] at hs
      exact PySem.P.repr_of_int (of_decide_eq_true hs) (fin _ _)
    | str y _ => obtain ⟨t, rfl⟩ := rx; exact PySem.P.repr_of_str (fin _ _) hz
    | lst ha _ hb =>
      cases rx
      exact repr_of_reads' rd hs (fun _ => hn) hG (by omega) (fun _ _ z => z) (fun h' u tk hk => ⟨.str _, H, I.kept (t' := tk) hk, ⟨u, rfl⟩, q⟩) hz
    | tup ha hb =>
      cases rx
      exact repr_of_reads' rd hs (fun _ => hn) hG (by omega) (fun _ _ z => z) (fun h' u tk hk => ⟨.str _, H, I.kept (t' := tk) hk, ⟨u, rfl⟩, q⟩) hz
    | dic ha =>
      cases rx
      exact repr_of_reads' rd hs (fun _ => hn) hG (by omega) (fun _ _ z => z) (fun h' u tk hk => ⟨.str _, H, I.kept (t' := tk) hk, ⟨u, rfl⟩, q⟩) hz
/-! ### a tuple beside the empty one -/
def rEqE (K : PySem.W.Frag) : R2 := fun x y H Q => ∃ (a b : Addr) (xs : List V), x = .ref a ∧ y = .ref b ∧ SqT K H a xs ∧ SqT K H b [] ∧ Q (.bl (decide (xs = []))) H
theorem op_eqE {X : Cx} (hu : X.A.units + 64 < cLine) : OpR X (compareOp .Eq) (rEqE X.K) := by
  intro pins s σ H x y v u Q I rx ry h
  obtain ⟨a, b, xs, rfl, rfl, ha, hb, q⟩ := h
  cases rx
  cases ry
  obtain ⟨its, rv, tu, _⟩ := I.tuple ha
  obtain ⟨its2, rv2, tu2, _⟩ := I.tuple hb
  cases rv2
  refine SeqAt.eq_tupleAt (e := fun _ => true) tu tu2 (by omega) (fun j _ h2 => (Nat.not_lt_zero _ h2).elim) ?_
  refine ⟨.bl (decide (xs = [])), H, I, ?_, q⟩
  show Value.bool _ = Value.bool _
  congr 1
  have hl := rv.length
  cases xs with
  | nil =>
    cases rv
    rfl
  | cons a r =>
    cases its with
    | nil => cases rv
    | cons b t => simp
def rNeE (K : PySem.W.Frag) : R2 := fun x y H Q => ∃ (a b : Addr) (xs : List V), x = .ref a ∧ y = .ref b ∧ SqT K H a xs ∧ SqT K H b [] ∧ Q (.bl (!decide (xs = []))) H
theorem op_neE {X : Cx} (hu : X.A.units + 64 < cLine) : OpR X (compareOp .NotEq) (rNeE X.K) := by
  intro pins s σ H x y v u Q I rx ry h
  obtain ⟨a, b, xs, rfl, rfl, ha, hb, q⟩ := h
  cases rx
  cases ry
  obtain ⟨its, rv, tu, _⟩ := I.tuple ha
  obtain ⟨its2, rv2, tu2, _⟩ := I.tuple hb
  cases rv2
  refine SeqAt.RcNeAt.tuples (e := fun _ => true) tu tu2 (by omega) (fun j _ h2 => (Nat.not_lt_zero _ h2).elim) X.prog X.w _ _ ?_
  refine ⟨.bl (!decide (xs = [])), H, I, ?_, q⟩
  show Value.bool _ = Value.bool _
  congr 1
  have hl := rv.length
  cases xs with
  | nil =>
    cases rv
    rfl
  | cons a r =>
    cases its with
    | nil => cases rv
    | cons b t => simp
/-! ### x in a tuple of data -/
def rInT (K : PySem.W.Frag) : R2 := fun x y H Q => ∃ d ds, Dp K H x d ∧ Dp K H y (.tuple ds) ∧ SeqAt.shaped d = true ∧ SeqAt.shaped (.tuple ds) = true ∧ Q (.bl (ds.any fun z => PyData.eqv z d)) H
def rNotInT (K : PySem.W.Frag) : R2 := fun x y H Q => ∃ d ds, Dp K H x d ∧ Dp K H y (.tuple ds) ∧ SeqAt.shaped d = true ∧ SeqAt.shaped (.tuple ds) = true ∧ Q (.bl (!ds.any fun z => PyData.eqv z d)) H
theorem op_inT {X : Cx} (hu : X.A.units + 65 < cLine) : OpR X (compareOp .In) (rInT X.K) := by
  intro pins s σ H x y v u Q I rx ry h
  obtain ⟨d, ds, hd, he, sd, se, q⟩ := h
  obtain ⟨as, r1⟩ := Dp.reads I d x v hd rx
  obtain ⟨bs, r2⟩ := Dp.reads I (.tuple ds) y u he ry
  exact SeqAt.in_tuple_reads r2 r1 (SeqAt.canLay_of_shaped se) (SeqAt.canLay_of_shaped sd) (room_in_shaped sd hu) ⟨.bl _, H, I, rfl, q⟩
theorem op_notInT {X : Cx} (hu : X.A.units + 65 < cLine) : OpR X (compareOp .NotIn) (rNotInT X.K) := by
  intro pins s σ H x y v u Q I rx ry h
  obtain ⟨d, ds, hd, he, sd, se, q⟩ := h
  obtain ⟨as, r1⟩ := Dp.reads I d x v hd rx
  obtain ⟨bs, r2⟩ := Dp.reads I (.tuple ds) y u he ry
  exact SeqAt.notIn_tuple_reads r2 r1 (SeqAt.canLay_of_shaped se) (SeqAt.canLay_of_shaped sd) (room_in_shaped sd hu) ⟨.bl _, H, I, rfl, q⟩
end Dq

set_option Elab.async false
set_option linter.all false
set_option maxRecDepth 100000
set_option maxHeartbeats 2000000
/-! trees of programs as data -/
namespace K40
open PySem PySem.Spec PyProof.Rows L2 Rd Dt Dq
def abc : Str := "abcdefghijklmnopqrstuvwxyz"
def isLetterS (s : Str) : Bool := match s.cps.toList with
  | [c] => decide (c ∈ abc.cps.toList)
  | _ => false
def isLetter : PyData → Bool
  | .str s => isLetterS s
  | _ => false
def isGoal : PyData → Bool
  | .str s => isLetterS s || decide (s = "END")
  | _ => false
def deedRest (k : Str) : List PyData → Bool
  | [b] => if k = "next" then isLetter b else (decide (k = "copy") || decide (k = "tie")) && isGoal b
  | _ => false
def isDeed : PyData → Bool
  | .tuple (.str k :: a :: r) => isLetter a && (if k = "new" ∨ k = "drop" then r.isEmpty else deedRest k r)
  | _ => false
def isComp : PyData → Bool
  | .tuple [.str s, a, b] => (decide (s = "=") || decide (s = "!=")) && (isLetter a && isGoal b)
  | _ => false
def isTest : PyData → Bool
  | .tuple [.str k, .tuple cs] => (decide (k = "and") || decide (k = "or")) && (decide (1 ≤ cs.length ∧ cs.length ≤ 3) && (!(decide (cs.length = 1) && decide (k = "or")) && cs.all isComp))
  | _ => false
def treeOf (f : PyData → Bool) : PyData → Bool
  | .tuple ds => ds.all f
  | _ => false
def isSt : Nat → PyData → Bool
  | 0, d => isDeed d
  | n + 1, d => isDeed d || match d with
    | .tuple [.str k, t, a, b] => decide (k = "if") && (isTest t && (treeOf (isSt n) a && treeOf (isSt n) b))
    | .tuple [.str k, t, a] => decide (k = "while") && (isTest t && treeOf (isSt n) a)
    | _ => false
def cntOf (f : PyData → Nat) : PyData → Nat
  | .tuple ds => (ds.map f).sum
  | _ => 0
def cntSt : Nat → PyData → Nat
  | 0, _ => 1
  | n + 1, d => match d with
    | .tuple [.str k, _, a, b] => if k = "if" then 1 + (cntOf (cntSt n) a + cntOf (cntSt n) b) else 1
    | .tuple [.str k, _, a] => if k = "while" then 1 + cntOf (cntSt n) a else 1
    | _ => 1
def strOf : PyData → Str
  | .str s => s
  | _ => Str.empty
def deedText : PyData → Str
  | .tuple [.str k, a] => if k = "new" then strOf a ++ " = new" else "drop " ++ strOf a
  | .tuple [.str k, a, b] => if k = "next" then strOf a ++ " = next " ++ strOf b else (if k = "tie" then ("next " : Str) else "") ++ strOf a ++ " = " ++ strOf b
  | _ => Str.empty
def compText : PyData → Str
  | .tuple [s, a, b] => strOf a ++ " " ++ strOf s ++ " " ++ strOf b
  | _ => Str.empty
def testText : PyData → Str
  | .tuple [k, .tuple cs] => Txt.join (" " ++ strOf k ++ " ") (cs.map compText)
  | _ => Str.empty
def treeTextOf (f : PyData → Str) : PyData → Str
  | .tuple ds => if ds = [] then "none" else Txt.join "; " (ds.map f)
  | _ => Str.empty
def noRows : PyData → Bool
  | .tuple ds => ds.isEmpty
  | _ => false
def stText : Nat → PyData → Str
  | 0, d => deedText d
  | n + 1, d => match d with
    | .tuple [.str k, t, a, b] => if k = "if" then ("if " ++ testText t ++ " { " ++ treeTextOf (stText n) a ++ " }") ++ (if noRows b = true then ("" : Str) else " else { " ++ treeTextOf (stText n) b ++ " }") else deedText d
    | .tuple [.str k, t, a] => if k = "while" then "while " ++ testText t ++ " { " ++ treeTextOf (stText n) a ++ " }" else deedText d
    | _ => deedText d
/-! ### bounds of the texts -/
structure Tok (s : Str) (n : Nat) : Prop where
  len : s.length ≤ n
  ok : PyData.strOk s = true
theorem Tok.mono {s : Str} {n m : Nat} (t : Tok s n) (h : n ≤ m) : Tok s m := ⟨Nat.le_trans t.len h, t.ok⟩
theorem strOk_append {a b : Str} (h : PyData.strOk a = true) (g : PyData.strOk b = true) : PyData.strOk (a ++ b) = true := by
  unfold PyData.strOk at *
  rw [Str.cps_append, Array.all_append, h, g]; rfl
theorem Tok.app {a b : Str} {n m : Nat} (h : Tok a n) (g : Tok b m) : Tok (a ++ b) (n + m) := ⟨by rw [Str.length_append]; exact Nat.add_le_add h.len g.len, strOk_append h.ok g.ok⟩
theorem join_ok {sep : Str} (hs : PyData.strOk sep = true) : ∀ ys : List Str, (∀ y ∈ ys, PyData.strOk y = true) → PyData.strOk (Str.join sep ys) = true
  | [], _ => by
    show PyData.strOk Str.empty = true
    decide +kernel
  | [x], h => h x List.mem_cons_self
  | x :: y :: r, h => by
    show PyData.strOk (x ++ sep ++ Str.join sep (y :: r)) = true
    exact strOk_append (strOk_append (h x List.mem_cons_self) hs) (join_ok hs (y :: r) fun z hz => h z (List.mem_cons_of_mem _ hz))
theorem sum_map_le {α : Type} (f g : α → Nat) : ∀ l : List α, (∀ x ∈ l, f x ≤ g x) → (l.map f).sum ≤ (l.map g).sum
  | [], _ => Nat.le_refl _
  | x :: l, h => by
    simp only [List.map_cons, List.sum_cons]
    exact Nat.add_le_add (h x List.mem_cons_self) (sum_map_le f g l fun y hy => h y (List.mem_cons_of_mem _ hy))
theorem join_tok {sep : Str} {n : Nat} {ys : List Str} (hs : PyData.strOk sep = true) (h : ∀ y ∈ ys, PyData.strOk y = true) (hl : (ys.map (·.length)).sum + ys.length * sep.length ≤ n) : Tok (Txt.join sep ys) n := by
  have e : Txt.join sep ys = Str.join sep ys := StrLaws.glued_eq_join sep ys
  rw [e]
  exact ⟨Nat.le_trans (StrLaws.join_length_le sep ys) hl, join_ok hs ys h⟩
theorem letter_tok {d : PyData} (h : isLetter d = true) : ∃ s, d = .str s ∧ Tok s 1 := by
  cases d with
  | str s =>
    refine ⟨s, rfl, ?_⟩
    have h' : isLetterS s = true := h
    unfold isLetterS at h'
    split at h'
    · rename_i c e
      refine ⟨?_, ?_⟩
      · show s.cps.size ≤ 1
        rw [← Array.length_toList, e]
        exact Nat.le_refl _
      · unfold PyData.strOk
        rw [← Array.all_toList, e]
        have m : c ∈ abc.cps.toList := of_decide_eq_true h'
        have all : ∀ c ∈ abc.cps.toList, c < 0x110000 := by decide +kernel
        simp only [List.all_cons, List.all_nil, Bool.and_true, decide_eq_true_eq]
        exact all c m
    · cases h'
  | _ => cases h
theorem goal_tok {d : PyData} (h : isGoal d = true) : ∃ s, d = .str s ∧ Tok s 3 := by
  cases d with
  | str s =>
    refine ⟨s, rfl, ?_⟩
    rcases Bool.or_eq_true_iff.mp (show (isLetterS s || decide (s = "END")) = true from h) with z | z
    · obtain ⟨s', e, t⟩ := letter_tok (d := .str s) z
      cases e
      exact t.mono (by decide)
    · rw [of_decide_eq_true z]
      exact ⟨by decide +kernel, by decide +kernel⟩
  | _ => cases h
theorem deed_cases {d : PyData} (h : isDeed d = true) : (∃ (k a : Str), d = .tuple [.str k, .str a] ∧ isLetterS a = true ∧ (k = "new" ∨ k = "drop")) ∨
    (∃ (k a b : Str), d = .tuple [.str k, .str a, .str b] ∧ isLetterS a = true ∧ ((k = "next" ∧ isLetterS b = true) ∨ ((k = "copy" ∨ k = "tie") ∧ isGoal (.str b) = true))) := by
  unfold isDeed at h
  split at h
  · rename_i k a r
    obtain ⟨h1, h2⟩ := Bool.and_eq_true_iff.mp h
    obtain ⟨s, rfl, _⟩ := letter_tok h1
    split at h2
    · rename_i hk
      cases r with
      | nil => exact .inl ⟨k, s, rfl, h1, hk⟩
      | cons x y => cases h2
    · unfold deedRest at h2
      split at h2
      · rename_i b
        split at h2
        · rename_i hn
          obtain ⟨s', rfl, _⟩ := letter_tok h2
          exact .inr ⟨k, s, s', rfl, h1, .inl ⟨hn, h2⟩⟩
        · obtain ⟨h3, h4⟩ := Bool.and_eq_true_iff.mp h2
          obtain ⟨s', rfl, _⟩ := goal_tok h4
          refine .inr ⟨k, s, s', rfl, h1, .inr ⟨?_, h4⟩⟩
          rcases Bool.or_eq_true_iff.mp h3 with z | z
          · exact .inl (of_decide_eq_true z)
          · exact .inr (of_decide_eq_true z)
      · cases h2
  · cases h
theorem st_cases {n : Nat} {d : PyData} (h : isSt (n + 1) d = true) : isDeed d = true ∨ (∃ t a b, d = .tuple [.str "if", t, a, b] ∧ isTest t = true ∧ treeOf (isSt n) a = true ∧ treeOf (isSt n) b = true) ∨
    (∃ t a, d = .tuple [.str "while", t, a] ∧ isTest t = true ∧ treeOf (isSt n) a = true) := by
  unfold isSt at h
  rcases Bool.or_eq_true_iff.mp h with z | z
  · exact .inl z
  · split at z
    · rename_i k t a b
      simp only [Bool.and_eq_true, decide_eq_true_eq] at z
      obtain ⟨rfl, z2, z3, z4⟩ := z
      exact .inr (.inl ⟨t, a, b, rfl, z2, z3, z4⟩)
    · rename_i k t a
      simp only [Bool.and_eq_true, decide_eq_true_eq] at z
      obtain ⟨rfl, z2, z3⟩ := z
      exact .inr (.inr ⟨t, a, rfl, z2, z3⟩)
    · cases z
theorem ne_if {k : Str} (h : k = "next" ∨ k = "copy" ∨ k = "tie" ∨ k = "new" ∨ k = "drop") : k ≠ "if" ∧ k ≠ "while" := by
  rcases h with rfl | rfl | rfl | rfl | rfl <;> exact ⟨by decide, by decide⟩
theorem deed_plain {d : PyData} (h : isDeed d = true) : ∀ n, cntSt n d = 1 ∧ stText n d = deedText d := by
  intro n
  cases n with
  | zero => exact ⟨rfl, rfl⟩
  | succ n =>
    rcases deed_cases h with ⟨k, a, rfl, _, _⟩ | ⟨k, a, b, rfl, _, hk⟩
    · exact ⟨rfl, rfl⟩
    · have := ne_if (k := k) (by rcases hk with ⟨z, _⟩ | ⟨z | z, _⟩ <;> simp [z])
      exact ⟨by unfold cntSt; exact if_neg this.2, by unfold stText; exact if_neg this.2⟩
theorem deed_tok {d : PyData} (h : isDeed d = true) : Tok (deedText d) 16 := by
  rcases deed_cases h with ⟨k, a, rfl, ha, _⟩ | ⟨k, a, b, rfl, ha, hb⟩
  · obtain ⟨a', e, ta⟩ := letter_tok (d := .str a) ha
    cases e
    show Tok (if k = "new" then a ++ " = new" else "drop " ++ a) 16
    have l1 : Tok " = new" 6 := ⟨by decide, by decide +kernel⟩
    have l2 : Tok "drop " 5 := ⟨by decide, by decide +kernel⟩
    split
    · exact (ta.app l1).mono (by decide)
    · exact (l2.app ta).mono (by decide)
  · obtain ⟨a', e, ta⟩ := letter_tok (d := .str a) ha
    cases e
    have tb : Tok b 3 := by
      rcases hb with ⟨_, z⟩ | ⟨_, z⟩
      · obtain ⟨b', e, tb⟩ := letter_tok (d := .str b) z
        cases e; exact tb.mono (by decide)
      · obtain ⟨b', e, tb⟩ := goal_tok z
        cases e; exact tb
    show Tok (if k = "next" then a ++ " = next " ++ b else (if k = "tie" then ("next " : Str) else "") ++ a ++ " = " ++ b) 16
    have l1 : Tok " = next " 8 := ⟨by decide, by decide +kernel⟩
    have l2 : Tok " = " 3 := ⟨by decide, by decide +kernel⟩
    have l3 : Tok (if k = "tie" then ("next " : Str) else "") 5 := by
      split
      · exact ⟨by decide, by decide +kernel⟩
      · exact ⟨by decide, by decide +kernel⟩
    split
    · exact ((ta.app l1).app tb).mono (by decide)
    · exact (((l3.app ta).app l2).app tb).mono (by decide)
theorem comp_cases {d : PyData} (h : isComp d = true) : ∃ (s a b : Str), d = .tuple [.str s, .str a, .str b] ∧ (s = "=" ∨ s = "!=") ∧ isLetterS a = true ∧ isGoal (.str b) = true := by
  unfold isComp at h
  split at h
  · rename_i s a b
    obtain ⟨h1, h2⟩ := Bool.and_eq_true_iff.mp h
    obtain ⟨h3, h4⟩ := Bool.and_eq_true_iff.mp h2
    obtain ⟨a', rfl, _⟩ := letter_tok h3
    obtain ⟨b', rfl, _⟩ := goal_tok h4
    refine ⟨s, a', b', rfl, ?_, h3, h4⟩
    rcases Bool.or_eq_true_iff.mp h1 with z | z
    · exact .inl (of_decide_eq_true z)
    · exact .inr (of_decide_eq_true z)
  · cases h
theorem comp_tok {d : PyData} (h : isComp d = true) : Tok (compText d) 8 := by
  obtain ⟨s, a, b, rfl, hs, ha, hb⟩ := comp_cases h
  obtain ⟨a', e, ta⟩ := letter_tok (d := .str a) ha
  cases e
  obtain ⟨b', e, tb⟩ := goal_tok hb
  cases e
  have ts : Tok s 2 := by
    rcases hs with rfl | rfl
    · exact ⟨by decide, by decide +kernel⟩
    · exact ⟨by decide, by decide +kernel⟩
  unfold compText
  exact ((((ta.app (m := 1) ⟨by decide, by decide +kernel⟩).app ts).app (m := 1) ⟨by decide, by decide +kernel⟩).app tb).mono (by decide)
theorem test_cases {d : PyData} (h : isTest d = true) : ∃ (k : Str) (cs : List PyData), d = .tuple [.str k, .tuple cs] ∧ (k = "and" ∨ k = "or") ∧ (1 ≤ cs.length ∧ cs.length ≤ 3) ∧ ∀ c ∈ cs, isComp c = true := by
  unfold isTest at h
  split at h
  · rename_i k cs
    simp only [Bool.and_eq_true, Bool.or_eq_true, decide_eq_true_eq, List.all_eq_true] at h
    exact ⟨k, cs, rfl, h.1, h.2.1, h.2.2.2⟩
  · cases h
theorem sum_const {α : Type} (f : α → Nat) (c : Nat) : ∀ l : List α, (∀ x ∈ l, f x ≤ c) → (l.map f).sum ≤ l.length * c
  | [], _ => Nat.zero_le _
  | x :: l, h => by
    simp only [List.map_cons, List.sum_cons, List.length_cons]
    have := sum_const f c l fun y hy => h y (List.mem_cons_of_mem _ hy)
    have := h x List.mem_cons_self
    rw [Nat.add_mul]; omega
theorem test_tok {d : PyData} (h : isTest d = true) : Tok (testText d) 40 := by
  obtain ⟨k, cs, rfl, hk, hl, hc⟩ := test_cases h
  have tk : Tok (" " ++ k ++ " ") 5 := by
    rcases hk with rfl | rfl
    · exact ⟨by decide, by decide +kernel⟩
    · exact ⟨by decide, by decide +kernel⟩
  unfold testText
  refine join_tok tk.ok (fun y hy => ?_) ?_
  · obtain ⟨c, h1, rfl⟩ := List.mem_map.mp hy
    exact (comp_tok (hc c h1)).ok
  · rw [List.map_map, List.length_map]
    have h1 := sum_const ((fun x : Str => x.length) ∘ compText) 8 cs fun c h1 => (comp_tok (hc c h1)).len
    have h2 : cs.length * (" " ++ strOf (.str k) ++ " ").length ≤ 3 * 5 := Nat.mul_le_mul hl.2 tk.len
    have h3 : cs.length * 8 ≤ 24 := by omega
    omega
theorem cntSt_pos (n : Nat) (d : PyData) : 1 ≤ cntSt n d := by
  cases n with
  | zero => exact Nat.le_refl _
  | succ n =>
    unfold cntSt
    split
    · split <;> omega
    · split <;> omega
    · omega
theorem tree_tok {n B : Nat} (ih : ∀ d, isSt n d = true → Tok (stText n d) (B * cntSt n d)) {d : PyData} (h : treeOf (isSt n) d = true) : Tok (treeTextOf (stText n) d) ((B + 2) * cntOf (cntSt n) d + 4) := by
  cases d with
  | tuple ds =>
    have h' : ∀ x ∈ ds, isSt n x = true := List.all_eq_true.mp h
    unfold treeTextOf
    dsimp only
    split
    · exact (Tok.mono (n := 4) ⟨by decide, by decide +kernel⟩ (Nat.le_add_left _ _))
    · refine join_tok (by decide +kernel) (fun y hy => ?_) ?_
      · obtain ⟨c, h1, rfl⟩ := List.mem_map.mp hy
        exact (ih c (h' c h1)).ok
      · rw [List.map_map, List.length_map]
        have h1 := sum_map_le ((fun x : Str => x.length) ∘ stText n) (fun d => B * cntSt n d) ds fun c hc => (ih c (h' c hc)).len
        have h2 : ∀ l : List PyData, (l.map fun d => B * cntSt n d).sum = B * (l.map (cntSt n)).sum := fun l => by
          induction l with
          | nil => rfl
          | cons x l ih => simp only [List.map_cons, List.sum_cons, ih, Nat.mul_add]
        have h3 : ∀ l : List PyData, l.length ≤ (l.map (cntSt n)).sum := fun l => by
          induction l with
          | nil => exact Nat.le_refl _
          | cons x l ih =>
            simp only [List.map_cons, List.sum_cons, List.length_cons]
            have := cntSt_pos n x
            omega
        rw [h2] at h1
        have h4 := h3 ds
        have e : (Str.ofString "; ").length = 2 := by decide
        rw [e]
        show _ ≤ (B + 2) * (ds.map (cntSt n)).sum + 4
        rw [Nat.add_mul]
        omega
  | _ => cases h
theorem st_tok : ∀ (n : Nat) (d : PyData), isSt n d = true → Tok (stText n d) ((64 + 2 * n) * cntSt n d)
  | 0, d, h => by
    show Tok (deedText d) ((64 + 2 * 0) * 1)
    exact (deed_tok h).mono (by decide)
  | n + 1, d, h => by
    rcases st_cases h with z | ⟨t, a, b, rfl, ht, ha, hb⟩ | ⟨t, a, rfl, ht, ha⟩
    · rw [(deed_plain z (n + 1)).1, (deed_plain z (n + 1)).2]
      exact (deed_tok z).mono (by omega)
    · have ta := tree_tok (st_tok n) ha
      have tb := tree_tok (st_tok n) hb
      have tt := test_tok ht
      have e1 : cntSt (n + 1) (.tuple [.str "if", t, a, b]) = 1 + (cntOf (cntSt n) a + cntOf (cntSt n) b) := by unfold cntSt; exact if_pos rfl
      have e2 : stText (n + 1) (.tuple [.str "if", t, a, b]) = ("if " ++ testText t ++ " { " ++ treeTextOf (stText n) a ++ " }") ++ (if noRows b = true then ("" : Str) else " else { " ++ treeTextOf (stText n) b ++ " }") := by conv => { lhs; unfold stText }; exact if_pos rfl
      rw [e1, e2]
      have t2 : Tok (if noRows b = true then ("" : Str) else " else { " ++ treeTextOf (stText n) b ++ " }") (8 + ((64 + 2 * n + 2) * cntOf (cntSt n) b + 4) + 2) := by
        split
        · exact Tok.mono (n := 0) ⟨by decide, by decide +kernel⟩ (Nat.zero_le _)
        · exact (Tok.app (n := 8) ⟨by decide, by decide +kernel⟩ tb).app (m := 2) ⟨by decide, by decide +kernel⟩
      refine (((((Tok.app (n := 3) ⟨by decide, by decide +kernel⟩ tt).app (m := 3) ⟨by decide, by decide +kernel⟩).app ta).app (m := 2) ⟨by decide, by decide +kernel⟩).app t2).mono ?_
      have x1 : (64 + 2 * (n + 1)) * (1 + (cntOf (cntSt n) a + cntOf (cntSt n) b)) = (64 + 2 * n + 2) + ((64 + 2 * n + 2) * cntOf (cntSt n) a + (64 + 2 * n + 2) * cntOf (cntSt n) b) := by
        rw [show 64 + 2 * (n + 1) = 64 + 2 * n + 2 by omega, Nat.mul_add, Nat.mul_one, Nat.mul_add]
      rw [x1]
      generalize (64 + 2 * n + 2) * cntOf (cntSt n) a = A
      generalize (64 + 2 * n + 2) * cntOf (cntSt n) b = B
      omega
    · have ta := tree_tok (st_tok n) ha
      have tt := test_tok ht
      have e1 : cntSt (n + 1) (.tuple [.str "while", t, a]) = 1 + cntOf (cntSt n) a := by unfold cntSt; exact if_pos rfl
      have e2 : stText (n + 1) (.tuple [.str "while", t, a]) = "while " ++ testText t ++ " { " ++ treeTextOf (stText n) a ++ " }" := by conv => { lhs; unfold stText }; exact if_pos rfl
      rw [e1, e2]
      refine ((((Tok.app (n := 6) ⟨by decide, by decide +kernel⟩ tt).app (m := 3) ⟨by decide, by decide +kernel⟩).app ta).app (m := 2) ⟨by decide, by decide +kernel⟩).mono ?_
      have x1 : (64 + 2 * (n + 1)) * (1 + cntOf (cntSt n) a) = (64 + 2 * n + 2) + (64 + 2 * n + 2) * cntOf (cntSt n) a := by
        rw [show 64 + 2 * (n + 1) = 64 + 2 * n + 2 by omega, Nat.mul_add, Nat.mul_one]
      rw [x1]
      omega
end K40

set_option Elab.async false
set_option linter.all false
set_option maxRecDepth 100000
set_option maxHeartbeats 2000000
/-! isinstance of a caught error that has fields -/
namespace Exx
open PySem PySem.Spec PyProof.Rows L2 Rd
def rIsX (K : PySem.W.Frag) (C a : Addr) (cls : Value) (d : Option Addr) : List V → Hp → VK → Prop := fun xs H Q => ∃ (c : V) (cv : Value) (b : Bool) (dd : Addr) (fs : List (Str × V)), xs = [.ref a, c] ∧ cls = .ref C ∧ (∀ u, RelV c u → u = cv) ∧ d = some dd ∧ H dd = some (.xd fs) ∧ PySem.W.kitOne K (.ref C) cv = some b ∧ Q (.bl b) H
theorem call_isX {X : Cx} {a C : Addr} {oe : Obj} {cls : Value} {d : Option Addr} {pn : List (Addr × Obj)} (E : ExcC X.K C) (hz : Zc cls d oe) (hf : ∃ vs, oe.data = .fields vs) : CallR (X.suite a ((a, oe) :: pn)) (.builtin "isinstance") (rIsX X.K C a cls d) := by
  intro pins s σ H xs us Q I r h
  obtain ⟨c, cv, b, dd, fs, rfl, ec, hcv, ed, hd, e, q⟩ := h
  subst ec ed
  cases r with
  | cons rx rr =>
    cases rr with
    | cons rt rr =>
      cases rr
      cases rx
      have ec := hcv _ rt
      subst ec
      obtain ⟨hget, _⟩ := I.pin (a, oe) (List.mem_append_left _ List.mem_cons_self)
      obtain ⟨vs, hv⟩ := hf
      have hx : ObjOk X.prog X.w H s.heap dd (.xd fs) := I.hok dd _ hd
      obtain ⟨mA, hns, hr⟩ := hx
      obtain ⟨od, ho, hl⟩ := lookIn_ns hns
      have J : PySem.W.InstAt s.heap a oe C (some od) := ⟨hget, hz.1, by unfold PySem.W.notCls; rw [hv] <;> rfl, by rw [hz.2]; exact ho⟩
      have hcl : (PySem.W.clsIn X.K C).isSome = true := by
        obtain ⟨cd, hc, _⟩ := PySem.W.any_some E.hd
        rw [hc]; rfl
      exact PySem.W.kia_one (PySem.W.kitx_exc (od := some od) hcl E.hg E.hk E.hs E.ha E.hn E.ht E.hm) I.kIn J e (fun z => nomatch z) fun tk => ⟨.bl b, H, I.kept (t' := tk) fun _ _ z => z, rfl, q⟩
def exB (K : PySem.W.Frag) (C : Addr) : Bool := decide (PySem.W.findIn K (.ref C) "__getattribute__" = some (some (.builtin "BaseException.__getattribute__"))) && (decide (PySem.W.findIn K (.ref C) "__getattr__" = some none) && (decide (PySem.W.subIn K (.ref C) (.type "BaseException") = some true) &&
  (PySem.W.hasDictIn K C && (decide (PySem.W.findIn K (.ref C) "__class__" = some (some (.builtin "object.__class__"))) && (decide (PySem.W.specialIn K (.builtin "object.__class__") "__get__" = some (some (.builtin "getset_descriptor.__get__"))) && (decide (PySem.W.takesIn K (.builtin "object.__class__") = some true) && decide (PySem.W.mroIn K C (.type "object") = some true)))))))
theorem exB_ok {K : PySem.W.Frag} {C : Addr} (h : exB K C = true) : ExcC K C := by
  unfold exB at h
  simp only [Bool.and_eq_true, decide_eq_true_eq] at h
  obtain ⟨h1, h2, h3, h4, h5, h6, h7, h8⟩ := h
  exact ⟨h1, h2, h3, h4, h5, h6, h7, h8⟩
/-- what a table of the written part says of an own error -/
def oexB (K : PySem.W.Frag) (C : Addr) : Bool := (match K.lookup C with
  | some ⟨.type "type", _, .cls cd, sl⟩ => (match cd.mro, sl.toList with
    | .ref C' :: bm, [_, _, _, _, some (.builtin n), _] => decide (C' = C) && (decide (n = "ValueError.__new__") && (cd.hasDict && (!cd.hasDel && PySem.HandSPX.refsVE bm)))
    | _, _ => false)
  | _ => false) && (decide (PySem.W.findIn K (.ref C) "__setattr__" = some (some (.builtin "object.__setattr__"))) && (decide (PySem.W.subIn K (.ref C) (.type "BaseException") = some true) && (decide (PySem.W.typeIn K (.ref C) = some (.type "type")) && PySem.W.keepIn K (.ref C))))
theorem oexB_ok {K : PySem.W.Frag} {C : Addr} (h : oexB K C = true) : OexC K C := by
  unfold oexB at h
  obtain ⟨h1, h⟩ := Bool.and_eq_true_iff.mp h
  obtain ⟨h2, h⟩ := Bool.and_eq_true_iff.mp h
  obtain ⟨h3, h⟩ := Bool.and_eq_true_iff.mp h
  obtain ⟨h4, h5⟩ := Bool.and_eq_true_iff.mp h
  refine ⟨?_, of_decide_eq_true h2, of_decide_eq_true h3, of_decide_eq_true h4, h5⟩
  split at h1
  · rename_i dd cd sl ho
    split at h1
    · rename_i C' bm k0 k1 k2 k3 n k5 hm hs
      obtain ⟨nm, bs, mro, ns, qn, hd, sn, sb, ab, col, del⟩ := cd
      obtain ⟨sl⟩ := sl
      dsimp only at h1 hm hs
      subst hm hs
      obtain ⟨e1, h1⟩ := Bool.and_eq_true_iff.mp h1
      obtain ⟨e2, h1⟩ := Bool.and_eq_true_iff.mp h1
      obtain ⟨e3, h1⟩ := Bool.and_eq_true_iff.mp h1
      obtain ⟨e4, e5⟩ := Bool.and_eq_true_iff.mp h1
      have e1' := of_decide_eq_true e1
      have e2' := of_decide_eq_true e2
      subst e1' e2'
      cases hd with
      | false => cases e3
      | true =>
        cases del with
        | true => cases e4
        | false => exact ⟨nm, qn, ns, bs, bm, sn, sb, ab, col, dd, k0, k1, k2, k3, k5, ho, e5⟩
    · cases h1
  · cases h1
/-- all that is asked of an own error's class, by its name and its field's -/
def erB (K : PySem.W.Frag) (x n : Str) : Bool := oexB K (He.ga K x) && (decide (PySem.W.findIn K (.ref (He.ga K x)) n = some none) && (decide (PySem.W.findIn K (.ref (He.ga K x)) "__init__" = some (some (.ref (He.ma K (He.ga K x) "__init__")))) &&
  (decide (PySem.W.typeIn K (.ref (He.ma K (He.ga K x) "__init__")) = some (.type "function")) && (xfB K (He.ga K x) && (exB K (He.ga K x) && decide (PySem.W.exmOne K (.ref (He.ga K x)) (.ref (He.ga K x)) = some true))))))
structure ErT (K : PySem.W.Frag) (x n : Str) : Prop where
  oex : OexC K (He.ga K x)
  noN : PySem.W.findIn K (.ref (He.ga K x)) n = some none
  iC : PySem.W.findIn K (.ref (He.ga K x)) "__init__" = some (some (.ref (He.ma K (He.ga K x) "__init__")))
  tI : PySem.W.typeIn K (.ref (He.ma K (He.ga K x) "__init__")) = some (.type "function")
  xf : XfC K (He.ga K x)
  ex : ExcC K (He.ga K x)
  te : PySem.W.exmOne K (.ref (He.ga K x)) (.ref (He.ga K x)) = some true
theorem erB_ok {K : PySem.W.Frag} {x n : Str} (h : erB K x n = true) : ErT K x n := by
  unfold erB at h
  simp only [Bool.and_eq_true, decide_eq_true_eq] at h
  obtain ⟨h1, h2, h3, h4, h5, h6, h7⟩ := h
  exact ⟨oexB_ok h1, h2, h3, h4, xfB_ok h5, exB_ok h6, h7⟩
end Exx

set_option Elab.async false
set_option linter.all false
set_option maxRecDepth 100000
set_option maxHeartbeats 2000000
/-! one of a row: of a list, a tuple, a text -/
namespace Pk
open PySem PySem.Spec PyProof.Rows L2 Rd
def rIxO (r r' : R2) : R2 := fun x y H Q => r x y H Q ∨ r' x y H Q
theorem IxR_or {X : Cx} {r r' : R2} (h : IxR X r) (h' : IxR X r') : IxR X (rIxO r r') := by
  intro value slice pins s σ H x y v u Q I rx ry q hs
  rcases q with q | q
  · exact h value slice pins s σ H x y v u Q I rx ry q hs
  · exact h' value slice pins s σ H x y v u Q I rx ry q hs
/-- the signs of a text, the items of a row -/
inductive Row (H : Hp) : V → List V → Prop
  | lst {a : Addr} {xs : List V} : H a = some (.lst xs) → Row H (.ref a) xs
  | tup {a : Addr} {xs : List V} : H a = some (.tup xs) → Row H (.ref a) xs
  | str (z : Str) (h : z.length ≤ sizeLine) : Row H (.str z) (z.cps.toList.map fun c => V.str ⟨#[c]⟩)
theorem Row.but {H H' : Hp} {u : Addr} {x : V} {xs : List V} (h : Row H x xs) (hb : But u H H') (hu : x ≠ .ref u) : Row H' x xs := by
  cases h with
  | lst e => exact .lst (hb _ _ (fun z => hu (by rw [z])) e)
  | tup e => exact .tup (hb _ _ (fun z => hu (by rw [z])) e)
  | str z h => exact .str z h
def rIxR : R2 := fun x y H Q => ∃ xs i v, Row H x xs ∧ y = .int i ∧ 0 ≤ i ∧ i < 2 ^ 60 ∧ xs[i.toNat]? = some v ∧ Q v H
theorem ix_row {X : Cx} : IxR X rIxR := by
  intro value slice pins s σ H x y v u Q I rx ry h hs
  obtain ⟨xs, i, z, hR, rfl, h0, h6, hz, q⟩ := h
  cases hR with
  | lst e => exact ix_list value slice pins s σ H _ _ v u Q I rx ry ⟨_, _, _, _, rfl, rfl, SqL.of e, atI_nn h0 hz, q⟩ hs
  | tup e => exact ix_tup value slice pins s σ H _ _ v u Q I rx ry ⟨_, _, _, _, rfl, rfl, SqT.of e, atI_nn h0 hz, q⟩ hs
  | str t ht =>
    rw [List.getElem?_map] at hz
    obtain ⟨c, hc, rfl⟩ := Option.map_eq_some_iff.mp hz
    have hl : i.toNat < t.cps.toList.length := (List.getElem?_eq_some_iff.mp hc).1
    exact ix_str value slice pins s σ H _ _ v u Q I rx ry ⟨_, _, _, rfl, rfl, ht, atI_nn h0 hc, q⟩ hs
def rLenR : List V → Hp → VK → Prop := fun vs H Q => ∃ x xs, vs = [x] ∧ Row H x xs ∧ Q (.int (xs.length : Nat)) H
theorem call_lenR {X : Cx} : CallR X (.builtin "len") rLenR := by
  intro pins s σ H vs us Q I r h
  obtain ⟨x, xs, rfl, hR, q⟩ := h
  cases hR with
  | lst e => exact call_len_seq pins s σ H _ us Q I r ⟨_, _, rfl, .inl (SqL.of e), q⟩
  | tup e => exact call_len_seq pins s σ H _ us Q I r ⟨_, _, rfl, .inr (SqT.of e), q⟩
  | str t ht => exact call_len_str pins s σ H _ us Q I r ⟨t, rfl, ht, by rw [List.length_map, Array.length_toList] at q; exact q⟩
theorem vals_at : ∀ (ys : List V) (us : List Value), ys.length = us.length → (∀ (j : Nat) (v : V) (u : Value), ys[j]? = some v → us[j]? = some u → RelV v u) → Vals ys us
  | [], [], _, _ => .nil
  | [], _ :: _, h, _ => nomatch h
  | _ :: _, [], h, _ => nomatch h
  | y :: ys, u :: us, h, g => .cons (g 0 _ _ rfl rfl) (vals_at ys us (Nat.succ.inj h) fun j v u a b => g (j + 1) v u a b)
def rSigns : List V → Hp → VK → Prop := fun xs H Q => ∃ z : Str, xs = [.str z] ∧ z.length ≤ sizeLine ∧ ∀ l, H l = none → Q (.ref l) (upd H l (.lst (z.cps.toList.map fun c => V.str ⟨#[c]⟩)))
/-- list(a text) -/
theorem call_list_signs {X : Cx} (hh : X.A.handled = none) : CallR X (.type "list") rSigns := by
  intro pins s σ H xs us Q I r h
  obtain ⟨z, rfl, hz, q⟩ := h
  obtain ⟨u, rfl, rx⟩ := vals1 r
  obtain ⟨t, rfl⟩ := rx
  refine PySem.call_list_str hh z t (hn := hz) fun h' tk acc' c' hk hS' hacc => ?_
  have hv : Vals (z.cps.toList.map fun c => V.str ⟨#[c]⟩) acc'.toList := by
    refine vals_at _ _ ?_ fun j v u hj hu => ?_
    · rw [List.length_map, Array.length_toList, Array.length_toList]; exact hacc.1.symm
    · obtain ⟨c, k, hc, rfl⟩ := hacc.2 j u (by simpa using hu)
      rw [List.getElem?_map, Array.getElem?_toList, hc] at hj
      cases hj
      exact ⟨k, rfl⟩
  exact ⟨.ref s.heap.objs.size, _, I.laid (t' := tk) hk (Nat.le_refl _) (show ObjOk X.prog X.w _ h' _ (.lst (z.cps.toList.map fun c => V.str ⟨#[c]⟩)) from ⟨by rw [List.length_map, Array.length_toList]; exact hz, acc'.toList, c', hv, by simpa using hS'⟩), rfl, q _ (I.hok.fresh (Nat.le_refl _))⟩
/-- a tuple as a comprehension's target -/
theorem pg_tupK {X : Cx} {K : PySem.W.Frag} {es : List Expr} {k : Nat} {pos : Pos} {t : TGs} {n : Nat} (hK : X.K = K) (hc : X.calm = true) (h : PGs X es t)
    (hn : (assignEach es X.env).length = n) (hst : (assignEach es X.env).findIdx? (·.1) = none) : PG X (.Tuple es k pos) (gTup K n t) := by
  subst hK
  exact pg_tup hc h hn hst
end Pk

set_option Elab.async false
set_option linter.all false
set_option maxRecDepth 100000
set_option maxHeartbeats 4000000
namespace K40
open PySem PySem.Spec PyProof.Rows L2 Rd Dt Dq Pk
local macro_rules | `(tactic| walk_at "rd") => `(tactic| try simp only [tVar_, tC_, tOp_, tUn_, rI_, rI0_, rU_, eq_ii, ne_ii, eq_ss, ne_ss, eq_bb, ne_bb, tAndV_, tOrV_, tNotV_, tIf_, tTest_, tB_, tAnd_, tOr_, tNot_, tChain_, tNil_, tCons_, tTup_, tLst_, tCB_, tCall_, tSeq_, tNext_, tRet_, tRetN_, tDrop_, tBreak_, tNever_, tIfS_, tAsg_, gName_, gTup_, gCons_, gNil_, gSub_, tPar_, tPar3_, tSl_, tNoPart_, tPart_, tBM_, tFor_range1, tFor_range2, tFor_list, tFor_tup,
  L2.start, List.map_cons, List.map_nil, List.length_cons, List.length_nil, List.replicate, List.append_nil, List.nil_append, List.cons_append, List.getElem?_cons_zero, List.getElem?_cons_succ, List.set_cons_zero, List.set_cons_succ, Option.some.injEq, V.int.injEq, V.bl.injEq, V.str.injEq, V.ref.injEq, exists_eq_left, exists_eq_left', exists_eq_right, exists_eq, exists_and_left, and_true, true_and, decide_eq_true_eq, Nat.reduceAdd, Nat.reduceSub, Nat.add_zero, Nat.zero_add, List.cons.injEq, Bool.not_eq_true', decide_eq_false_iff_not, eq_self, reduceCtorEq, Bool.false_eq_true, if_true, if_false, ite_true, ite_false, and_self, tLc_range1, tLc_range2, tLc_list, tLc_tup, tYes_, wipe0, wipe1, tCallS_, rIxL_, rIxT_, rSlL_, rCat_, rSetL_, rRep_, rGcd_, tCallK_, gUnl_, tRaise_, decide_true, decide_false, not_true_eq_false, not_false_eq_true, false_and, or_false, false_or, and_false, and_assoc, exists_const, forall_const, forall_eq'])

def top (i : Nat) : Stmt := PySem.Challenge.pw_arrowcells_k40_tests_on_stores.main.body.getD i (.Pass ⟨0, 0, 0, 0⟩)
structure Tx (mg : Str → Option Value) : Prop where
  b_len : mg "len" = none
  b_int : mg "int" = none
  b_isinstance : mg "isinstance" = none
  b_abs : mg "abs" = none
  b_divmod : mg "divmod" = none
  b_range : mg "range" = none
  b_max : mg "max" = none
  b_min : mg "min" = none
  b_repr : mg "repr" = none
  b_all : mg "all" = none
  b_list : mg "list" = none
  b_tuple : mg "tuple" = none
  b_str : mg "str" = none
  b_sum : mg "sum" = none
  letters : ∃ t, mg "LETTERS" = some (.str abc t)
  mc : ∃ t, mg "MOST_COMPARISONS" = some (.int 3 t)
abbrev FD (K : PySem.W.Frag) (x : Str) (st : Stmt) (f : Addr) (fd : FuncData) : Prop := FunD K x x (defArgs st) (defBody st) (defScope st) [] [] f fd
abbrev ErN (K : PySem.W.Frag) (mg : Str → Option Value) := Er K mg "InvalidProgram" "given"
abbrev KW (K : PySem.W.Frag) (fd : FuncData) (ps : List Str) : Prop := KBn K fd ps 0 ps (fun _ ws => ws) (fun _ zs => zs)
section
variable {P : Program} {w : World} {K : PySem.W.Frag} {mg : Str → Option Value} {base : Heap}
def WellAt (H : Hp) (u : Addr) : Prop := ∃ a b c : Int, H u = some (.lst [.int a, .int b, .int c])
theorem WellAt.but {H H' : Hp} {u : Addr} (h : WellAt H u) (s : Same H H') : WellAt H' u := by
  obtain ⟨a, b, c, e⟩ := h
  exact ⟨a, b, c, s _ _ e⟩
def spTake : Sp := fun vs H Q _ => ∃ (u : Addr) (n : Int), vs = [.ref u, .int n] ∧ WellAt H u ∧ 1 ≤ n ∧ n < 1073741824 ∧ ∀ (d : Int) (H' : Hp), But u H H' → WellAt H' u → 0 ≤ d → d < n → Q (.int d) H'
theorem sc_take : FnScope ["_law_well_here", "_law_limit", "_law_figure", "_law_seed"] ["_law_well_here", "_law_limit"] (defScope (top 44)) := ⟨rfl, rfl, rfl, by decide +kernel, rfl, by decide +kernel, by decide +kernel⟩
theorem ok_take {f : Addr} {fd : FuncData} (T : Tx mg) (F : FD K "_law_take" (top 44) f fd) : FnOk P w K mg base CX0 1 f fd ["_law_well_here", "_law_limit"] spTake := by
  refine F.ok sc_take (fun vs H Q E h => ?_) (fun cdv A outer s H vs Q E hr h => ?_)
  · obtain ⟨_, _, rfl, _⟩ := h
    rfl
  · obtain ⟨u, n, rfl, ⟨a, b, c, hu⟩, n1, n2, k⟩ := h
    have nd := sc_take.nd
    refine ⟨_, (pss_cons (ps_if (pt_cmpR op_gt (pe_ix (r := rIxL K) ix_list (pv 0) pe_int (fun _ _ => rfl)) pe_int (nomark _)) (pss_cons (ps_asg (pe_callB call_divmodW (by rfl) T.b_divmod (by decide +kernel) (pa_cons (pe_ix (r := rIxL K) ix_list (pv 0) pe_int (fun _ _ => rfl)) (pa_cons (pv 1) pa_nil))) (pg_tup rfl (pgs_cons (pg_sub (pv 0) pe_int set_list) (pgs_cons (pg_name (i := 2) nd rfl (Or.inl rfl) (hf := Or.inr rfl)) pgs_nil))))
        (pss_one (ps_ret (pv 2)))) pss_nil)
        (pss_cons (ps_asg (pe_op op_add (pe_ix (r := rIxL K) ix_list (pv 0) pe_int (fun _ _ => rfl)) pe_int) (pg_sub (pv 0) pe_int set_list))
        (pss_cons (ps_set (i := 3) nd rfl (Or.inl rfl) (pe_op op_mod (pe_callTy call_int1 (by rfl) T.b_int (by decide +kernel) (pa_cons (pe_op op_add (pe_op op_mul (pe_ix (r := rIxL K) ix_list (pv 0) pe_int (fun _ _ => rfl)) pe_int) (pe_op op_mul (pe_ix (r := rIxL K) ix_list (pv 0) pe_int (fun _ _ => rfl)) pe_int)) pa_nil)) pe_int))
        (pss_cons (ps_asg (pe_op op_mod (pe_callTy call_int1 (by rfl) T.b_int (by decide +kernel) (pa_cons (pe_op op_add (pe_op op_mul (pv 3) (pe_op op_add (pe_op op_mod (pe_callTy call_int1 (by rfl) T.b_int (by decide +kernel) (pa_cons (pe_op op_fdiv (pv 3) pe_int) pa_nil)) pe_int) pe_int)) pe_int) pa_nil)) pe_int) (pg_sub (pv 0) pe_int set_list))
        (pss_one (ps_ret (pe_op op_mod (pe_callTy call_int1 (by rfl) T.b_int (by decide +kernel) (pa_cons (pe_op op_fdiv (pe_ix (r := rIxL K) ix_list (pv 0) pe_int (fun _ _ => rfl)) pe_int) pa_nil)) (pv 1)))))))), ?_⟩
    refine sq fun U hU => ?_
    walk_at "rd"
    refine ⟨_, SqL.of hu, _, atI_nn (by decide) rfl, a, rfl, ?_⟩
    by_cases c0 : 0 < a
    · rw [if_pos c0]
      refine ⟨_, SqL.of hu, _, atI_nn (by decide) rfl, a, rfl, ⟨by omega, PyProof.noPylong_small (by omega)⟩, fun p hp => ?_⟩
      have hup : u ≠ p := ne_of_none hu hp
      refine ⟨_, SqT.of upd_same, rfl, _, _, rfl, _, (by rw [upd_ne hup]; exact hu), 0, rfl, _, _, rfl, rfl, ?_⟩
      refine k _ _ (fun b' o hb e => ?_) ⟨_, _, _, upd_same⟩ (Int.emod_nonneg a (by omega)) (Int.emod_lt_of_pos a (by omega))
      rw [upd_ne hb, upd_ne (ne_of_none e hp)]; exact e
    rw [if_neg c0]
    refine hU _ _ ?_
    clear hU
    refine sq fun U hU => ?_
    walk_at "rd"
    refine ⟨_, SqL.of hu, _, atI_nn (by decide) rfl, c, rfl, _, hu, 2, rfl, hU _ _ ?_⟩
    clear hU
    have h1 : (upd H u (.lst ([V.int a, V.int b, V.int c].set 2 (V.int (c + 1))))) u = some (.lst [.int a, .int b, .int (c + 1)]) := upd_same
    generalize eH : upd H u (.lst ([V.int a, V.int b, V.int c].set 2 (V.int (c + 1)))) = H1 at h1 ⊢
    have s1 : But u H H1 := by rw [← eH]; exact But.put
    refine sq fun U hU => ?_
    walk_at "rd"
    refine ⟨_, SqL.of h1, _, atI_nn (by decide) rfl, b, rfl, .inr ⟨by decide, by decide⟩, _, SqL.of h1, _, atI_nn (by decide) rfl, c + 1, rfl, .inr ⟨by decide, by decide⟩, by decide, hU _ _ ?_⟩
    clear hU
    generalize (b * 48271 + (c + 1) * 30103) % 2147483629 = sd
    refine sq fun U hU => ?_
    walk_at "rd"
    have q1 := Int.emod_nonneg (sd / 7) (show (5003 : Int) ≠ 0 by decide)
    have q2 := Int.emod_lt_of_pos (sd / 7) (show (0 : Int) < 5003 by decide)
    refine ⟨⟨by decide, by decide⟩, by decide, .inr ⟨by omega, by omega⟩, by decide, _, h1, 1, rfl, hU _ _ ?_⟩
    clear hU
    generalize (sd * (sd / 7 % 5003 + 20011) + 11) % 2147483587 = b2
    have h2 : (upd H1 u (.lst ([V.int a, V.int b, V.int (c + 1)].set 1 (V.int b2)))) u = some (.lst [.int a, .int b2, .int (c + 1)]) := upd_same
    walk_at "rd"
    refine ⟨_, SqL.of h2, _, atI_nn (by decide) rfl, b2, rfl, ⟨by decide, by decide⟩, by omega, ?_⟩
    exact k _ _ (s1.trans But.put) ⟨_, _, _, h2⟩ (Int.emod_nonneg _ (by omega)) (Int.emod_lt_of_pos _ (by omega))
theorem sc_well : FnScope ["_law_script", "_law_turn", "_law_own", "_law_stirred", "_law_cell"] ["_law_script", "_law_turn"] (defScope (top 43)) := ⟨rfl, rfl, rfl, by decide +kernel, rfl, by decide +kernel, by decide +kernel⟩
def spWell (K : PySem.W.Frag) : Sp := fun vs H Q _ => ∃ (a : Addr) (ns : List Int) (t : Int), vs = [.ref a, .int t] ∧ SqL K H a (ns.map V.int) ∧ ns.length ≤ 63 ∧ 0 ≤ t ∧ t ≤ 5 ∧ ∀ (u : Addr) (H' : Hp), Same H H' → H u = none → WellAt H' u → Q (.ref u) H'
def wlP (a : Addr) (t o : Int) (K : PySem.W.Frag) (ns : List Int) (H : Hp) (i : Nat) : L2.St → Hp → Prop := fun σ H' => Same H H' ∧ ∃ (b : Int) (x : Option V), σ = [some (.ref a), some (V.int t), some (V.int o), some (V.int b), x]
theorem ok_well {f : Addr} {fd : FuncData} (T : Tx mg) (F : FD K "_law_well" (top 43) f fd) : FnOk P w K mg base CX0 1 f fd ["_law_script", "_law_turn"] (spWell K) := by
  refine F.ok sc_well (fun vs H Q E h => ?_) (fun cdv A outer s H vs Q E hr h => ?_)
  · obtain ⟨_, _, _, rfl, _⟩ := h
    rfl
  · obtain ⟨a, ns, t, rfl, hS, hn, t0, t1, k⟩ := h
    have nd := sc_well.nd
    refine ⟨_, (pss_cons (ps_set (i := 2) nd rfl (Or.inl rfl) (pe_ifExp (pt_cmpR op_lt (pv 1) (pe_callB call_len_seq (by rfl) T.b_len PySem.boot_len (pa_cons (pv 0) pa_nil)) (nomark _)) (pe_callTy call_int1 (by rfl) T.b_int (by decide +kernel) (pa_cons (pe_ix (r := rIxL K) ix_list (pv 0) (pv 1) (fun _ _ => rfl)) pa_nil)) (pe_op op_add (pe_op op_mul pe_int (pv 1)) pe_int)))
        (pss_cons (ps_set (i := 3) nd rfl (Or.inl rfl) (pe_op op_add pe_int (pe_op op_mul pe_int (pv 1))))
        (pss_cons (ps_for (passes_of rfl) rfl (pi_list (pe_slice (r := rSlL K) sl_list (pv 0) po_none (po_some pe_int))) (pg_name (i := 4) nd rfl (Or.inl rfl)) (pss_one (ps_set (i := 3) nd rfl (Or.inl rfl) (pe_op op_mod (pe_callTy call_int1 (by rfl) T.b_int (by decide +kernel) (pa_cons (pe_op op_add (pe_op op_add (pe_op op_mul (pv 3) pe_int) (pe_op op_mod (pe_callTy call_int1 (by rfl) T.b_int (by decide +kernel) (pa_cons (pv 4) pa_nil)) pe_int)) pe_int) pa_nil)) pe_int))))
        (pss_cons (ps_set (i := 3) nd rfl (Or.inl rfl) (pe_op op_mod (pe_callTy call_int1 (by rfl) T.b_int (by decide +kernel) (pa_cons (pe_op op_add (pe_op op_mul (pv 3) pe_int) (pe_op op_mul (pe_op op_mod (pe_callTy call_int1 (by rfl) T.b_int (by decide +kernel) (pa_cons (pv 2) pa_nil)) pe_int) pe_int)) pa_nil)) pe_int))
        (pss_one (ps_ret (pe_lst (pa_cons (pe_ifExp (PW.pt (pw_or (pt_cmpR op_lt (pv 2) pe_int (nomark _)) (pw_or1 (pt_cmpR op_ge (pv 2) (pe_op op_pow pe_int pe_int) (nomark _))))) (pe_callB call_abs (by rfl) T.b_abs (by decide +kernel) (pa_cons (pv 2) pa_nil)) pe_int) (pa_cons (pv 3) (pa_cons pe_int pa_nil)))))))))), ?_⟩
    refine sq fun U hU => ?_
    walk_at "rd"
    have go : ∀ o : Int, U [some (V.ref a), some (V.int t), some (V.int o), none, none] H := fun o => by
      refine hU _ _ ?_
      clear hU
      refine sq fun U hU => ?_
      walk_at "rd"
      refine ⟨.inr ⟨by omega, by omega⟩, hU _ _ ?_⟩
      clear hU
      refine sq fun U hU => ?_
      walk_at "rd"
      refine ⟨_, hS, fun p hp => ⟨⟨_, SqL.of upd_same⟩, ?_⟩⟩
      refine for_l (K := K) (a := p) (xs := cutV (ns.map V.int) none (some 9)) (fun i => fun σ H' => H' p = some (.lst (cutV (ns.map V.int) none (some 9))) ∧ wlP a t o K ns H i σ H') ⟨upd_same, same_new hp, _, _, rfl⟩ (fun i σ H' _ h => SqL.of h.1) ?_ ?_
      · rintro i x σ H' hi ⟨hp', hs, b, y, rfl⟩
        obtain ⟨z, rfl⟩ : ∃ z, x = V.int z := by
          have hm := List.mem_of_getElem? hi
          obtain ⟨z, _, rfl⟩ := List.mem_map.mp (List.mem_of_mem_drop (List.mem_of_mem_take hm))
          exact ⟨z, rfl⟩
        walk_at "rd"
        exact ⟨.inr ⟨by decide, by decide⟩, by decide, by decide, hp', hs, _, _, rfl⟩
      · rintro σ H' ⟨hp', hs, b, y, rfl⟩
        refine hU _ _ ?_
        clear hU
        refine sq fun U hU => ?_
        walk_at "rd"
        refine ⟨.inr ⟨by decide, by decide⟩, by decide, .inr ⟨by decide, by decide⟩, by decide, hU _ _ ?_⟩
        clear hU
        walk_at "rd"
        have fin : ∀ g b', (∀ p, H' p = none → Q (.ref p) (upd H' p (.lst [V.int g, V.int b', V.int 0]))) := fun g b' q hq => k q _ (hs.trans (same_new hq)) (hs.free hq) ⟨_, _, _, upd_same⟩
        by_cases c : o < 0
        · rw [if_pos c]
          exact ⟨by decide, fun q hq => fin _ _ q hq⟩
        · rw [if_neg c]
          refine ⟨⟨by decide, by decide, by decide⟩, ?_⟩
          by_cases c2 : (10 : Int) ^ (18 : Int).toNat ≤ o
          · rw [if_pos c2]
            exact ⟨by decide, fun q hq => fin _ _ q hq⟩
          · rw [if_neg c2]
            exact ⟨by decide, fun q hq => fin _ _ q hq⟩
    refine ⟨_, .inl hS, ?_⟩
    rw [List.length_map]
    by_cases c : t < (ns.length : Int)
    · rw [if_pos c]
      have hx : (ns.map V.int)[t.toNat]? = some (V.int (ns[t.toNat]'(by omega))) := by rw [List.getElem?_map, List.getElem?_eq_getElem (by omega)]; rfl
      exact ⟨_, hS, _, atI_nn t0 hx, .inl ⟨_, rfl, go _⟩⟩
    · rw [if_neg c]
      exact ⟨.inl ⟨by decide, by decide⟩, go _⟩
theorem some_but {H H' : Hp} {u : Addr} {a : Addr} {o : HO} (h : H a = some o) (hb : But u H H') (n : a ≠ u) : H' a = some o := hb _ _ n h
def spPick : Sp := fun vs H Q _ => ∃ (u : Addr) (x : V) (xs : List V), vs = [.ref u, x] ∧ WellAt H u ∧ x ≠ .ref u ∧ Row H x xs ∧ 1 ≤ xs.length ∧ xs.length ≤ 1000 ∧ ∀ (y : V) (H' : Hp), But u H H' → WellAt H' u → y ∈ xs → Q y H'
theorem sc_pick : FnScope ["_law_well_here", "_law_some"] ["_law_well_here", "_law_some"] (defScope (top 45)) := ⟨rfl, rfl, rfl, by decide +kernel, rfl, by decide +kernel, by decide +kernel⟩
theorem ok_pick {f : Addr} {fd : FuncData} (T : Tx mg) (F : FD K "_law_pick" (top 45) f fd) {f1 : Addr} {fd1 : FuncData} (C1 : Cal P w K mg base CX0 1 "_law_take" ["_law_well_here", "_law_limit"] spTake f1 fd1) : FnOk P w K mg base CX0 2 f fd ["_law_well_here", "_law_some"] spPick := by
  obtain ⟨g_law_take, k_law_take, b_law_take, F_law_take⟩ := C1
  refine F.ok sc_pick (fun vs H Q E h => ?_) (fun cdv A outer s H vs Q E hr h => ?_)
  · obtain ⟨_, _, _, rfl, _⟩ := h
    rfl
  · obtain ⟨u, x, xs, rfl, hw, hne, hR, l1, l2, k⟩ := h
    refine ⟨_, (pss_one (ps_ret (pe_ix ix_row (pv 1) (pe_call F_law_take (hr.mono (by omega)) rfl g_law_take k_law_take b_law_take .nil pass0 (pa_cons (pv 0) (pa_cons (pe_callB call_lenR (by rfl) T.b_len PySem.boot_len (pa_cons (pv 1) pa_nil)) pa_nil))) (fun _ _ => rfl)))), ?_⟩
    walk_at "rd"
    simp only [spTake]
    walk_at "rd"
    refine ⟨_, _, rfl, hR, _, rfl, hw, by omega, by omega, fun d H' hb hw' d0 d1 => ?_⟩
    obtain ⟨y, hy⟩ : ∃ y, xs[d.toNat]? = some y := ⟨_, List.getElem?_eq_getElem (by omega)⟩
    exact ⟨xs, d, y, hR.but hb hne, rfl, d0, by omega, hy, k y H' hb hw' (List.mem_of_getElem? hy)⟩
end
end K40

set_option Elab.async false
set_option linter.all false
set_option maxRecDepth 100000
set_option maxHeartbeats 4000000
namespace K40
open PySem PySem.Spec PyProof.Rows L2 Rd Dt Dq Pk
local macro_rules | `(tactic| walk_at "rd") => `(tactic| try simp only [tVar_, tC_, tOp_, tUn_, rI_, rI0_, rU_, eq_ii, ne_ii, eq_ss, ne_ss, eq_bb, ne_bb, tAndV_, tOrV_, tNotV_, tIf_, tTest_, tB_, tAnd_, tOr_, tNot_, tChain_, tNil_, tCons_, tTup_, tLst_, tCB_, tCall_, tSeq_, tNext_, tRet_, tRetN_, tDrop_, tBreak_, tNever_, tIfS_, tAsg_, gName_, gTup_, gCons_, gNil_, gSub_, tPar_, tPar3_, tSl_, tNoPart_, tPart_, tBM_, tFor_range1, tFor_range2, tFor_list, tFor_tup,
  L2.start, List.map_cons, List.map_nil, List.length_cons, List.length_nil, List.replicate, List.append_nil, List.nil_append, List.cons_append, List.getElem?_cons_zero, List.getElem?_cons_succ, List.set_cons_zero, List.set_cons_succ, Option.some.injEq, V.int.injEq, V.bl.injEq, V.str.injEq, V.ref.injEq, exists_eq_left, exists_eq_left', exists_eq_right, exists_eq, exists_and_left, and_true, true_and, decide_eq_true_eq, Nat.reduceAdd, Nat.reduceSub, Nat.add_zero, Nat.zero_add, List.cons.injEq, Bool.not_eq_true', decide_eq_false_iff_not, eq_self, reduceCtorEq, Bool.false_eq_true, if_true, if_false, ite_true, ite_false, and_self, tLc_range1, tLc_range2, tLc_list, tLc_tup, tYes_, wipe0, wipe1, tCallS_, rIxL_, rIxT_, rSlL_, rCat_, rSetL_, rRep_, rGcd_, tCallK_, gUnl_, tRaise_, decide_true, decide_false, not_true_eq_false, not_false_eq_true, false_and, or_false, false_or, and_false, and_assoc, exists_const, forall_const, forall_eq'])

section
variable {P : Program} {w : World} {K : PySem.W.Frag} {mg : Str → Option Value} {base : Heap}
def isTup : PyData → Bool
  | .tuple _ => true
  | _ => false
def isStr : PyData → Bool
  | .str _ => true
  | _ => false
theorem isi_tup {H : Hp} {x : V} {d : PyData} {Q : VK} (h : Dq K H x d) (q : Q (.bl (isTup d)) H) : rIsi K [x, .ty "tuple"] H Q := by
  cases h with
  | non => exact ⟨_, _, .type "NoneType", .type "tuple", false, rfl, .ty _, .base .non, rfl, q⟩
  | bl b => exact ⟨_, _, .type "bool", .type "tuple", false, rfl, .ty _, .base (.bl _), rfl, q⟩
  | int i _ => exact ⟨_, _, .type "int", .type "tuple", false, rfl, .ty _, .base (.int _), rfl, q⟩
  | str x _ => exact ⟨_, _, .type "str", .type "tuple", false, rfl, .ty _, .base (.str _), rfl, q⟩
  | tup e _ => exact ⟨_, _, .type "tuple", .type "tuple", true, rfl, .ty _, .base (.tup e), rfl, q⟩
  | lst e _ _ => exact ⟨_, _, .type "list", .type "tuple", false, rfl, .ty _, .base (.lst e), rfl, q⟩
  | dic e => exact ⟨_, _, .type "dict", .type "tuple", false, rfl, .ty _, .base (.dK e), rfl, q⟩
theorem isi_str {H : Hp} {x : V} {d : PyData} {Q : VK} (h : Dq K H x d) (q : Q (.bl (isStr d)) H) : rIsi K [x, .ty "str"] H Q := by
  cases h with
  | non => exact ⟨_, _, .type "NoneType", .type "str", false, rfl, .ty _, .base .non, rfl, q⟩
  | bl b => exact ⟨_, _, .type "bool", .type "str", false, rfl, .ty _, .base (.bl _), rfl, q⟩
  | int i _ => exact ⟨_, _, .type "int", .type "str", false, rfl, .ty _, .base (.int _), rfl, q⟩
  | str x _ => exact ⟨_, _, .type "str", .type "str", true, rfl, .ty _, .base (.str _), rfl, q⟩
  | tup e _ => exact ⟨_, _, .type "tuple", .type "str", false, rfl, .ty _, .base (.tup e), rfl, q⟩
  | lst e _ _ => exact ⟨_, _, .type "list", .type "str", false, rfl, .ty _, .base (.lst e), rfl, q⟩
  | dic e => exact ⟨_, _, .type "dict", .type "str", false, rfl, .ty _, .base (.dK e), rfl, q⟩
def spData (g : PyData → Bool) (K : PySem.W.Frag) : Sp := fun vs H Q _ => ∃ (x : V) (d : PyData), vs = [x] ∧ Dq K H x d ∧ ∀ H', Same H H' → Q (.bl (g d)) H'
theorem smS_line {s : Str} (h : smS s = true) : s.length ≤ sizeLine := Nat.le_trans (of_decide_eq_true (Bool.and_eq_true_iff.mp h).1) (by rw [sizeLine_eq]; decide)
theorem isLetter_one {s : Str} (h : s.length = 1) : ∃ c, s = ⟨#[c]⟩ ∧ isLetterS s = decide (c ∈ abc.cps.toList) := by
  obtain ⟨⟨l⟩⟩ := s
  have h' : l.length = 1 := h
  match l, h' with
  | [c], _ => exact ⟨c, rfl, rfl⟩
theorem isLetter_not {s : Str} (h : s.length ≠ 1) : isLetterS s = false := by
  obtain ⟨⟨l⟩⟩ := s
  have h' : l.length ≠ 1 := h
  match l, h' with
  | [], _ => rfl
  | [c], h => exact absurd rfl h
  | _ :: _ :: _, _ => rfl
theorem sc_letter : FnScope ["value"] ["value"] (defScope (top 18)) := ⟨rfl, rfl, rfl, by decide +kernel, rfl, by decide +kernel, by decide +kernel⟩
theorem ok_letter {f : Addr} {fd : FuncData} (T : Tx mg) (F : FD K "is_letter" (top 18) f fd) : FnOk P w K mg base CX0 1 f fd ["value"] (spData isLetter K) := by
  obtain ⟨t, hLET⟩ := T.letters
  refine F.ok sc_letter (fun vs H Q E h => ?_) (fun cdv A outer s H vs Q E hr h => ?_)
  · obtain ⟨_, _, rfl, _⟩ := h
    rfl
  · obtain ⟨x, d, rfl, hx, k⟩ := h
    replace k := k H (Same.refl H)
    refine ⟨_, (pss_one (ps_ret (pe_and (pe_callB call_isi (by rfl) T.b_isinstance (by decide +kernel) (pa_cons (pv 0) (pa_cons (pe_bltn (v := .ty "str") rfl T.b_str (by decide +kernel) rfl) pa_nil))) (pe_and (pe_cmpR op_eq (pe_callB call_len_str (by rfl) T.b_len PySem.boot_len (pa_cons (pv 0) pa_nil)) pe_int (nomark _)) (pe_one (pe_cmpR op_in_sign (pv 0) (pe_glob (v := .str abc) rfl hLET ⟨_, rfl⟩) rfl)))))), ?_⟩
    walk_at "rd"
    refine isi_str hx ?_
    walk_at "rd"
    cases hx with
    | str z hz =>
      simp only [isStr, if_true]
      refine ⟨z, rfl, smS_line hz, ?_⟩
      by_cases h1 : (z.length : Int) = 1
      · rw [if_pos h1]
        obtain ⟨c, rfl, e⟩ := isLetter_one (by omega : z.length = 1)
        refine ⟨c, rfl, ?_⟩
        show Q (.bl (decide (c ∈ abc.cps.toList))) H
        rw [← e]
        exact k
      · rw [if_neg h1]
        have e : isLetter (.str z) = false := isLetter_not (by omega)
        rw [e] at k
        exact k
    | _ => exact k
theorem sc_sign : FnScope ["_law_token"] ["_law_token"] (defScope (top 54)) := ⟨rfl, rfl, rfl, by decide +kernel, rfl, by decide +kernel, by decide +kernel⟩
theorem ok_sign {f : Addr} {fd : FuncData} (T : Tx mg) (F : FD K "_law_is_sign" (top 54) f fd) : FnOk P w K mg base CX0 1 f fd ["_law_token"] (spData isLetter K) := by
  obtain ⟨t, hLET⟩ := T.letters
  refine F.ok sc_sign (fun vs H Q E h => ?_) (fun cdv A outer s H vs Q E hr h => ?_)
  · obtain ⟨_, _, rfl, _⟩ := h
    rfl
  · obtain ⟨x, d, rfl, hx, k⟩ := h
    replace k := k H (Same.refl H)
    refine ⟨_, (pss_one (ps_ret (pe_and (pe_callB call_isi (by rfl) T.b_isinstance (by decide +kernel) (pa_cons (pv 0) (pa_cons (pe_bltn (v := .ty "str") rfl T.b_str (by decide +kernel) rfl) pa_nil))) (pe_and (pe_cmpR op_eq (pe_callB call_len_str (by rfl) T.b_len PySem.boot_len (pa_cons (pv 0) pa_nil)) pe_int (nomark _)) (pe_one (pe_cmpR op_in_sign (pv 0) pe_str rfl)))))), ?_⟩
    walk_at "rd"
    refine isi_str hx ?_
    walk_at "rd"
    cases hx with
    | str z hz =>
      simp only [isStr, if_true]
      refine ⟨z, rfl, smS_line hz, ?_⟩
      by_cases h1 : (z.length : Int) = 1
      · rw [if_pos h1]
        obtain ⟨c, rfl, e⟩ := isLetter_one (by omega : z.length = 1)
        refine ⟨c, rfl, ?_⟩
        show Q (.bl (decide (c ∈ abc.cps.toList))) H
        rw [← e]
        exact k
      · rw [if_neg h1]
        have e : isLetter (.str z) = false := isLetter_not (by omega)
        rw [e] at k
        exact k
    | _ => exact k
theorem sc_goal : FnScope ["value"] ["value"] (defScope (top 30)) := ⟨rfl, rfl, rfl, by decide +kernel, rfl, by decide +kernel, by decide +kernel⟩
theorem ok_goal {f : Addr} {fd : FuncData} (T : Tx mg) (F : FD K "is_goal" (top 30) f fd) {f1 : Addr} {fd1 : FuncData} (C1 : Cal P w K mg base CX0 1 "is_letter" ["value"] (spData isLetter K) f1 fd1) : FnOk P w K mg base CX0 2 f fd ["value"] (spData isGoal K) := by
  obtain ⟨gis_letter, kis_letter, bis_letter, Fis_letter⟩ := C1
  refine F.ok sc_goal (fun vs H Q E h => ?_) (fun cdv A outer s H vs Q E hr h => ?_)
  · obtain ⟨_, _, rfl, _⟩ := h
    rfl
  · obtain ⟨x, d, rfl, hx, k⟩ := h
    refine ⟨_, (pss_one (ps_ret (pe_or (pe_call Fis_letter (hr.mono (by omega)) rfl gis_letter kis_letter bis_letter .nil pass0 (pa_cons (pv 0) pa_nil)) (pe_one (pe_and (pe_callB call_isi (by rfl) T.b_isinstance (by decide +kernel) (pa_cons (pv 0) (pa_cons (pe_bltn (v := .ty "str") rfl T.b_str (by decide +kernel) rfl) pa_nil))) (pe_one (pe_cmpR op_eq (pv 0) pe_str (nomark _)))))))), ?_⟩
    walk_at "rd"
    refine ⟨x, d, rfl, hx, fun H' hs => ?_⟩
    replace k := k H' hs
    replace hx := hx.up hs
    walk_at "rd"
    cases hx with
    | str z hz =>
      have e : isGoal (.str z) = (isLetterS z || decide (z = "END")) := rfl
      rw [e] at k
      by_cases h1 : isLetterS z = true
      · rw [if_pos (show isLetter (.str z) = true from h1)]
        rw [h1] at k
        exact k
      · rw [if_neg (show ¬ isLetter (.str z) = true from h1)]
        rw [Bool.eq_false_iff.mpr h1] at k
        refine isi_str (.str z hz) ?_
        simp only [isStr]
        walk_at "rd"
        exact k
    | non =>
      rw [if_neg (by simp [isLetter])]
      refine isi_str .non ?_
      simp only [isStr]
      walk_at "rd"
      exact k
    | bl b =>
      rw [if_neg (by simp [isLetter])]
      refine isi_str (.bl b) ?_
      simp only [isStr]
      walk_at "rd"
      exact k
    | int i h =>
      rw [if_neg (by simp [isLetter])]
      refine isi_str (.int i h) ?_
      simp only [isStr]
      walk_at "rd"
      exact k
    | tup a h =>
      rw [if_neg (by simp [isLetter])]
      refine isi_str (.tup a h) ?_
      simp only [isStr]
      walk_at "rd"
      exact k
    | lst a l h =>
      rw [if_neg (by simp [isLetter])]
      refine isi_str (.lst a l h) ?_
      simp only [isStr]
      walk_at "rd"
      exact k
    | dic a =>
      rw [if_neg (by simp [isLetter])]
      refine isi_str (.dic a) ?_
      simp only [isStr]
      walk_at "rd"
      exact k
theorem sc_goal2 : FnScope ["_law_token"] ["_law_token"] (defScope (top 55)) := ⟨rfl, rfl, rfl, by decide +kernel, rfl, by decide +kernel, by decide +kernel⟩
theorem ok_goal2 {f : Addr} {fd : FuncData} (T : Tx mg) (F : FD K "_law_is_goal" (top 55) f fd) {f1 : Addr} {fd1 : FuncData} (C1 : Cal P w K mg base CX0 1 "_law_is_sign" ["_law_token"] (spData isLetter K) f1 fd1) : FnOk P w K mg base CX0 2 f fd ["_law_token"] (spData isGoal K) := by
  obtain ⟨g_law_is_sign, k_law_is_sign, b_law_is_sign, F_law_is_sign⟩ := C1
  refine F.ok sc_goal2 (fun vs H Q E h => ?_) (fun cdv A outer s H vs Q E hr h => ?_)
  · obtain ⟨_, _, rfl, _⟩ := h
    rfl
  · obtain ⟨x, d, rfl, hx, k⟩ := h
    refine ⟨_, (pss_one (ps_ret (pe_or (pe_call F_law_is_sign (hr.mono (by omega)) rfl g_law_is_sign k_law_is_sign b_law_is_sign .nil pass0 (pa_cons (pv 0) pa_nil)) (pe_one (pe_and (pe_callB call_isi (by rfl) T.b_isinstance (by decide +kernel) (pa_cons (pv 0) (pa_cons (pe_bltn (v := .ty "str") rfl T.b_str (by decide +kernel) rfl) pa_nil))) (pe_one (pe_cmpR op_eq (pv 0) pe_str (nomark _)))))))), ?_⟩
    walk_at "rd"
    refine ⟨x, d, rfl, hx, fun H' hs => ?_⟩
    replace k := k H' hs
    replace hx := hx.up hs
    walk_at "rd"
    cases hx with
    | str z hz =>
      have e : isGoal (.str z) = (isLetterS z || decide (z = "END")) := rfl
      rw [e] at k
      by_cases h1 : isLetterS z = true
      · rw [if_pos (show isLetter (.str z) = true from h1)]
        rw [h1] at k
        exact k
      · rw [if_neg (show ¬ isLetter (.str z) = true from h1)]
        rw [Bool.eq_false_iff.mpr h1] at k
        refine isi_str (.str z hz) ?_
        simp only [isStr]
        walk_at "rd"
        exact k
    | non =>
      rw [if_neg (by simp [isLetter])]
      refine isi_str .non ?_
      simp only [isStr]
      walk_at "rd"
      exact k
    | bl b =>
      rw [if_neg (by simp [isLetter])]
      refine isi_str (.bl b) ?_
      simp only [isStr]
      walk_at "rd"
      exact k
    | int i h =>
      rw [if_neg (by simp [isLetter])]
      refine isi_str (.int i h) ?_
      simp only [isStr]
      walk_at "rd"
      exact k
    | tup a h =>
      rw [if_neg (by simp [isLetter])]
      refine isi_str (.tup a h) ?_
      simp only [isStr]
      walk_at "rd"
      exact k
    | lst a l h =>
      rw [if_neg (by simp [isLetter])]
      refine isi_str (.lst a l h) ?_
      simp only [isStr]
      walk_at "rd"
      exact k
    | dic a =>
      rw [if_neg (by simp [isLetter])]
      refine isi_str (.dic a) ?_
      simp only [isStr]
      walk_at "rd"
      exact k
end
end K40

set_option Elab.async false
set_option linter.all false
set_option maxRecDepth 100000
set_option maxHeartbeats 4000000
namespace K40
open PySem PySem.Spec PyProof.Rows L2 Rd Dt Dq Pk
local macro_rules | `(tactic| walk_at "rd") => `(tactic| try simp only [tVar_, tC_, tOp_, tUn_, rI_, rI0_, rU_, eq_ii, ne_ii, eq_ss, ne_ss, eq_bb, ne_bb, tAndV_, tOrV_, tNotV_, tIf_, tTest_, tB_, tAnd_, tOr_, tNot_, tChain_, tNil_, tCons_, tTup_, tLst_, tCB_, tCall_, tSeq_, tNext_, tRet_, tRetN_, tDrop_, tBreak_, tNever_, tIfS_, tAsg_, gName_, gTup_, gCons_, gNil_, gSub_, tPar_, tPar3_, tSl_, tNoPart_, tPart_, tBM_, tFor_range1, tFor_range2, tFor_list, tFor_tup,
  L2.start, List.map_cons, List.map_nil, List.length_cons, List.length_nil, List.replicate, List.append_nil, List.nil_append, List.cons_append, List.getElem?_cons_zero, List.getElem?_cons_succ, List.set_cons_zero, List.set_cons_succ, Option.some.injEq, V.int.injEq, V.bl.injEq, V.str.injEq, V.ref.injEq, exists_eq_left, exists_eq_left', exists_eq_right, exists_eq, exists_and_left, and_true, true_and, decide_eq_true_eq, Nat.reduceAdd, Nat.reduceSub, Nat.add_zero, Nat.zero_add, List.cons.injEq, Bool.not_eq_true', decide_eq_false_iff_not, eq_self, reduceCtorEq, Bool.false_eq_true, if_true, if_false, ite_true, ite_false, and_self, tLc_range1, tLc_range2, tLc_list, tLc_tup, tYes_, wipe0, wipe1, tCallS_, rIxL_, rIxT_, rSlL_, rCat_, rSetL_, rRep_, rGcd_, tCallK_, gUnl_, tRaise_, decide_true, decide_false, not_true_eq_false, not_false_eq_true, false_and, or_false, false_or, and_false, and_assoc, exists_const, forall_const, forall_eq'])

section
variable {P : Program} {w : World} {K : PySem.W.Frag} {mg : Str → Option Value} {base : Heap}
theorem eqV_ss {a b : Str} : eqV (.str a) (.str b) = decide (a = b) := by
  show (a == b) = decide (a = b)
  by_cases h : a = b
  · subst h; simp
  · simp [h]
theorem eqV_ii {a b : Int} : eqV (.int a) (.int b) = decide (a = b) := by
  show (a == b) = decide (a = b)
  by_cases h : a = b
  · subst h; simp
  · simp [h]
theorem in2i {H : Hp} {p : Addr} {k a b : Int} {Q : VK} (hp : H p = some (.tup [.int a, .int b])) (q : Q (.bl (!(decide (k = a) || decide (k = b)))) H) : rIn K true (.int k) (.ref p) H Q := by
  refine ⟨p, _, rfl, .inr (SqT.of hp), rfl, rfl, ?_⟩
  have e : inV (.int k) [.int a, .int b] = (decide (k = a) || decide (k = b)) := by
    simp only [inV, List.any_cons, List.any_nil, Bool.or_false, eqV_ii, eq_comm]
  simp only [e]
  exact q
theorem in3i {H : Hp} {p : Addr} {k a b c : Int} {Q : VK} (hp : H p = some (.tup [.int a, .int b, .int c])) (q : Q (.bl (!(decide (k = a) || (decide (k = b) || decide (k = c))))) H) : rIn K true (.int k) (.ref p) H Q := by
  refine ⟨p, _, rfl, .inr (SqT.of hp), rfl, rfl, ?_⟩
  have e : inV (.int k) [.int a, .int b, .int c] = (decide (k = a) || (decide (k = b) || decide (k = c))) := by
    simp only [inV, List.any_cons, List.any_nil, Bool.or_false, eqV_ii, eq_comm]
  simp only [e]
  exact q
theorem notIn2 {H : Hp} {p : Addr} {k a b : Str} {Q : VK} (hp : H p = some (.tup [.str a, .str b])) (q : Q (.bl (!(decide (k = a) || decide (k = b)))) H) : rIn K true (.str k) (.ref p) H Q := by
  refine ⟨p, _, rfl, .inr (SqT.of hp), rfl, rfl, ?_⟩
  have e : inV (.str k) [.str a, .str b] = (decide (k = a) || decide (k = b)) := by
    simp only [inV, List.any_cons, List.any_nil, Bool.or_false, eqV_ss, eq_comm]
  simp only [e]
  exact q
theorem notIn3 {H : Hp} {p : Addr} {k a b c : Str} {Q : VK} (hp : H p = some (.tup [.str a, .str b, .str c])) (q : Q (.bl (!(decide (k = a) || (decide (k = b) || decide (k = c))))) H) : rIn K true (.str k) (.ref p) H Q := by
  refine ⟨p, _, rfl, .inr (SqT.of hp), rfl, rfl, ?_⟩
  have e : inV (.str k) [.str a, .str b, .str c] = (decide (k = a) || (decide (k = b) || decide (k = c))) := by
    simp only [inV, List.any_cons, List.any_nil, Bool.or_false, eqV_ss, eq_comm]
  simp only [e]
  exact q
theorem in2 {H : Hp} {p : Addr} {k a b : Str} {Q : VK} (hp : H p = some (.tup [.str a, .str b])) (q : Q (.bl (decide (k = a) || decide (k = b))) H) : rIn K false (.str k) (.ref p) H Q := by
  refine ⟨p, _, rfl, .inr (SqT.of hp), rfl, rfl, ?_⟩
  have e : inV (.str k) [.str a, .str b] = (decide (k = a) || decide (k = b)) := by
    simp only [inV, List.any_cons, List.any_nil, Bool.or_false, eqV_ss, eq_comm]
  simp only [e]
  exact q
end
end K40

set_option Elab.async false
set_option linter.all false
set_option maxRecDepth 100000
set_option maxHeartbeats 4000000
namespace K40
open PySem PySem.Spec PyProof.Rows L2 Rd Dt Dq Pk
local macro_rules | `(tactic| walk_at "rd") => `(tactic| try simp only [tVar_, tC_, tOp_, tUn_, rI_, rI0_, rU_, eq_ii, ne_ii, eq_ss, ne_ss, eq_bb, ne_bb, tAndV_, tOrV_, tNotV_, tIf_, tTest_, tB_, tAnd_, tOr_, tNot_, tChain_, tNil_, tCons_, tTup_, tLst_, tCB_, tCall_, tSeq_, tNext_, tRet_, tRetN_, tDrop_, tBreak_, tNever_, tIfS_, tAsg_, gName_, gTup_, gCons_, gNil_, gSub_, tPar_, tPar3_, tSl_, tNoPart_, tPart_, tBM_, tFor_range1, tFor_range2, tFor_list, tFor_tup,
  L2.start, List.map_cons, List.map_nil, List.length_cons, List.length_nil, List.replicate, List.append_nil, List.nil_append, List.cons_append, List.getElem?_cons_zero, List.getElem?_cons_succ, List.set_cons_zero, List.set_cons_succ, Option.some.injEq, V.int.injEq, V.bl.injEq, V.str.injEq, V.ref.injEq, exists_eq_left, exists_eq_left', exists_eq_right, exists_eq, exists_and_left, and_true, true_and, decide_eq_true_eq, Nat.reduceAdd, Nat.reduceSub, Nat.add_zero, Nat.zero_add, List.cons.injEq, Bool.not_eq_true', decide_eq_false_iff_not, eq_self, reduceCtorEq, Bool.false_eq_true, if_true, if_false, ite_true, ite_false, and_self, tLc_range1, tLc_range2, tLc_list, tLc_tup, tYes_, wipe0, wipe1, tCallS_, rIxL_, rIxT_, rSlL_, rCat_, rSetL_, rRep_, rGcd_, tCallK_, gUnl_, tRaise_, decide_true, decide_false, not_true_eq_false, not_false_eq_true, false_and, or_false, false_or, and_false, and_assoc, exists_const, forall_const, forall_eq'])

section
variable {P : Program} {w : World} {K : PySem.W.Frag} {mg : Str → Option Value} {base : Heap}
theorem for_t {K : PySem.W.Frag} {a : Addr} {xs : List V} {g : TG} {tb : TS} {D : Ends} {σ : L2.St} {H : Hp} (Pv : Nat → L2.St → Hp → Prop) (h0 : Pv 0 σ H) (hl : ∀ i σ H, i ≤ xs.length → Pv i σ H → SqT K H a xs)
    (hs : ∀ i x σ H, xs[i]? = some x → Pv i σ H → g x σ H fun σ2 H2 => tb { D with nx := Pv (i + 1), ct := Pv (i + 1), bk := D.nx } σ2 H2) (hd : ∀ σ H, Pv xs.length σ H → D.nx σ H) :
    tFor (fun _ H R => R (Itt K a) H) g tb D σ H := for_tup Pv h0 hl hs hd
theorem test_len {ds : List PyData} (h : ds.length ≠ 2) : isTest (.tuple ds) = false := by
  match ds, h with
  | [], _ => rfl
  | [d1], _ => cases d1 <;> rfl
  | [d1, d2], h => exact absurd rfl h
  | d1 :: d2 :: d3 :: r, _ => cases d1 <;> cases d2 <;> rfl
theorem isTest_eq {k : Str} {cs : List PyData} : isTest (.tuple [.str k, .tuple cs]) = ((decide (k = "and") || decide (k = "or")) && (decide (1 ≤ cs.length ∧ cs.length ≤ 3) && (!(decide (cs.length = 1) && decide (k = "or")) && cs.all isComp))) := rfl
theorem all_step {f : PyData → Bool} {cs : List PyData} {i : Nat} {c : PyData} (h : cs[i]? = some c) : (cs.take (i + 1)).all f = ((cs.take i).all f && f c) := by
  rw [List.take_succ, h, List.all_append]
  simp
def ttP (H0 : Hp) (a0 : Addr) (f : PyData → Bool) (cs : List PyData) (i : Nat) : L2.St → Hp → Prop := fun σ H => Same H0 H ∧ (∃ (m : Int) (y : Option V), σ = [some (.ref a0), some (V.int m), y]) ∧ (cs.take i).all f = true
end
end K40

set_option Elab.async false
set_option linter.all false
set_option maxRecDepth 100000
set_option maxHeartbeats 4000000
namespace K40
open PySem PySem.Spec PyProof.Rows L2 Rd Dt Dq Pk
local macro_rules | `(tactic| walk_at "rd") => `(tactic| try simp only [tVar_, tC_, tOp_, tUn_, rI_, rI0_, rU_, eq_ii, ne_ii, eq_ss, ne_ss, eq_bb, ne_bb, tAndV_, tOrV_, tNotV_, tIf_, tTest_, tB_, tAnd_, tOr_, tNot_, tChain_, tNil_, tCons_, tTup_, tLst_, tCB_, tCall_, tSeq_, tNext_, tRet_, tRetN_, tDrop_, tBreak_, tNever_, tIfS_, tAsg_, gName_, gTup_, gCons_, gNil_, gSub_, tPar_, tPar3_, tSl_, tNoPart_, tPart_, tBM_, tFor_range1, tFor_range2, tFor_list, tFor_tup,
  L2.start, List.map_cons, List.map_nil, List.length_cons, List.length_nil, List.replicate, List.append_nil, List.nil_append, List.cons_append, List.getElem?_cons_zero, List.getElem?_cons_succ, List.set_cons_zero, List.set_cons_succ, Option.some.injEq, V.int.injEq, V.bl.injEq, V.str.injEq, V.ref.injEq, exists_eq_left, exists_eq_left', exists_eq_right, exists_eq, exists_and_left, and_true, true_and, decide_eq_true_eq, Nat.reduceAdd, Nat.reduceSub, Nat.add_zero, Nat.zero_add, List.cons.injEq, Bool.not_eq_true', decide_eq_false_iff_not, eq_self, reduceCtorEq, Bool.false_eq_true, if_true, if_false, ite_true, ite_false, and_self, tLc_range1, tLc_range2, tLc_list, tLc_tup, tYes_, wipe0, wipe1, tCallS_, rIxL_, rIxT_, rSlL_, rCat_, rSetL_, rRep_, rGcd_, tCallK_, gUnl_, tRaise_, decide_true, decide_false, not_true_eq_false, not_false_eq_true, false_and, or_false, false_or, and_false, and_assoc, exists_const, forall_const, forall_eq'])

section
variable {P : Program} {w : World} {K : PySem.W.Frag} {mg : Str → Option Value} {base : Heap}
theorem _root_.L2.Room.units65F {k : Nat} {A : Around} (r : Room k A) : A.units + 65 < cLine := by have := r.un; omega
def spTree (g : PyData → Bool) (K : PySem.W.Frag) (i : Int) : Sp := fun vs H Q _ => ∃ (x : V) (d : PyData), vs = [x, .int i] ∧ Dq K H x d ∧ ∀ H', Same H H' → Q (.bl (g d)) H'
def spST (K : PySem.W.Frag) (n : Nat) : Sp := spTree (isSt n) K (4 - n)
def spTW (K : PySem.W.Frag) (n : Nat) : Sp := spTree (treeOf (isSt n)) K (4 - n)
def spPrev (K : PySem.W.Frag) : Nat → Sp
  | 0 => fun _ _ _ _ => False
  | n + 1 => spTW K n
theorem fn_false {CX : CXT} {k : Nat} {f : Addr} {fd : FuncData} {ps : List Str} : FnOk P w K mg base CX k f fd ps (fun _ _ _ _ => False) := ⟨fun _ _ _ _ h => h.elim, fun _ _ _ _ _ _ _ _ _ _ _ _ _ h => h.elim⟩
def twP (H0 : Hp) (a0 : Addr) (i : Int) (f : PyData → Bool) (ds : List PyData) (j : Nat) : L2.St → Hp → Prop := fun σ H => Same H0 H ∧ (∃ (y : Option V), σ = [some (.ref a0), some (.int i), y]) ∧ (ds.take j).all f = true
def stP (H0 : Hp) (a0 : Addr) (i : Int) (f : PyData → Bool) (ds : List PyData) (j : Nat) : L2.St → Hp → Prop := fun σ H => Same H0 H ∧ (∃ (y : Option V), σ = [some (.ref a0), some (.int i), y]) ∧ (ds.take j).all f = true
theorem st_form (n : Nat) {k : Str} {t : PyData} {r : List PyData} (h : isDeed (.tuple (.str k :: t :: r)) = false) (hk : (k = "if" ∧ r.length = 2) ∨ (k = "while" ∧ r.length = 1)) : isSt (n + 1) (.tuple (.str k :: t :: r)) = (isTest t && r.all (treeOf (isSt n))) := by
  rcases hk with ⟨rfl, h2⟩ | ⟨rfl, h2⟩
  · match r, h2 with
    | [a, b], _ =>
      unfold isSt
      rw [h]
      simp only [Bool.false_or, List.all_cons, List.all_nil, Bool.and_true, decide_true, Bool.true_and]
  · match r, h2 with
    | [a], _ =>
      unfold isSt
      rw [h]
      simp only [Bool.false_or, List.all_cons, List.all_nil, Bool.and_true, decide_true, Bool.true_and]
theorem st_bad {d : PyData} (h : isDeed d = false) : isSt 0 d = false ∧ ((∀ k t r, d = .tuple (.str k :: t :: r) → ¬ ((k = "if" ∧ r.length = 2) ∨ (k = "while" ∧ r.length = 1))) → ∀ n, isSt (n + 1) d = false) := by
  refine ⟨h, fun hk n => ?_⟩
  unfold isSt
  rw [h, Bool.false_or]
  split
  · rename_i k t a b
    rw [decide_eq_false (fun z => hk k t [a, b] rfl (.inl ⟨z, rfl⟩)), Bool.false_and]
  · rename_i k t a
    rw [decide_eq_false (fun z => hk k t [a] rfl (.inr ⟨z, rfl⟩)), Bool.false_and]
  · rfl
theorem any_ifw {kk : Str} {n : Int} : ([PyData.tuple [.str "if", .int 4], .tuple [.str "while", .int 3]].any fun z => PyData.eqv z (.tuple [.str kk, .int n])) = ((decide (kk = "if") && decide (n = 4)) || (decide (kk = "while") && decide (n = 3))) := by
  simp only [List.any_cons, List.any_nil, Bool.or_false, PyData.eqv, PyData.eqvAll, Bool.and_true]
  have e1 : ∀ a b : Str, (a == b) = decide (b = a) := fun a b => by
    by_cases h : a = b
    · subst h; simp
    · rw [decide_eq_false (fun z => h z.symm)]; simp [h]
  have e2 : ∀ a b : Int, (a == b) = decide (b = a) := fun a b => by
    by_cases h : a = b
    · subst h; simp
    · rw [decide_eq_false (fun z => h z.symm)]; simp [h]
  rw [e1, e1, e2, e2]
theorem six2 {a b : V} {vs : List V} : HT.sIx (a :: b :: vs).length 0 (some 2) = 2 := by
  have := HT.sIx_nat (a :: b :: vs).length 0 2
  rw [show ((2 : Nat) : Int) = 2 from rfl] at this
  rw [this]
  simp only [List.length_cons]
  omega
theorem cut2 {a b : V} {vs : List V} : cutV (a :: b :: vs) (some 2) none = vs := by
  unfold cutV
  rw [six2]
  show ((a :: b :: vs).drop 2).take ((a :: b :: vs).length - 2) = vs
  simp
theorem shaped_kn {kk : Str} {n : Int} (h : smS kk = true) : SeqAt.shaped (.tuple [.str kk, .int n]) = true := by
  have := (Bool.and_eq_true_iff.mp h).2
  show ((PyData.canLay0 (.tuple [.str kk, .int n])) && decide (PyData.depth (.tuple [.str kk, .int n]) ≤ 64)) = true
  rw [PyData.canLay0, PyData.canLayAll0, PyData.canLay0, this, PyData.canLayAll0, PyData.canLay0, PyData.canLayAll0]
  rfl
end
end K40

set_option Elab.async false
set_option linter.all false
set_option maxRecDepth 100000
set_option maxHeartbeats 4000000
namespace K40
open PySem PySem.Spec PyProof.Rows L2 Rd Dt Dq Pk
local macro_rules | `(tactic| walk_at "rd") => `(tactic| try simp only [tVar_, tC_, tM1,  tOp_, tUn_, rI_, rI0_, rU_, eq_ii, ne_ii, eq_ss, ne_ss, eq_bb, ne_bb, tAndV_, tOrV_, tNotV_, tIf_, tTest_, tB_, tAnd_, tOr_, tNot_, tChain_, tNil_, tCons_, tTup_, tLst_, tCB_, tCall_, tSeq_, tNext_, tRet_, tRetN_, tDrop_, tBreak_, tNever_, tIfS_, tAsg_, gName_, gTup_, gCons_, gNil_, gSub_, tPar_, tPar3_, tSl_, tNoPart_, tPart_, tBM_, tFor_range1, tFor_range2, tFor_list, tFor_tup,
  L2.start, List.map_cons, List.map_nil, List.length_cons, List.length_nil, List.replicate, List.append_nil, List.nil_append, List.cons_append, List.getElem?_cons_zero, List.getElem?_cons_succ, List.set_cons_zero, List.set_cons_succ, Option.some.injEq, V.int.injEq, V.bl.injEq, V.str.injEq, V.ref.injEq, exists_eq_left, exists_eq_left', exists_eq_right, exists_eq, exists_and_left, and_true, true_and, decide_eq_true_eq, Nat.reduceAdd, Nat.reduceSub, Nat.add_zero, Nat.zero_add, List.cons.injEq, Bool.not_eq_true', decide_eq_false_iff_not, eq_self, reduceCtorEq, Bool.false_eq_true, if_true, if_false, ite_true, ite_false, and_self, tLc_range1, tLc_range2, tLc_list, tLc_tup, tYes_, wipe0, wipe1, tCallS_, rIxL_, rIxT_, rSlL_, rCat_, rSetL_, rRep_, rGcd_, tCallK_, gUnl_, tRaise_, decide_true, decide_false, not_true_eq_false, not_false_eq_true, false_and, or_false, false_or, and_false, and_assoc, exists_const, forall_const, forall_eq'])

section
variable {P : Program} {w : World} {K : PySem.W.Frag} {mg : Str → Option Value} {base : Heap}
theorem ln {a b : Str} {n m : Nat} (ta : Tok a n) (tb : Tok b m) (h : n + m ≤ 1000000) : a.length + b.length ≤ sizeLine := by
  have := ta.len
  have := tb.len
  rw [sizeLine_eq]
  omega
def spText (p : PyData → Bool) (g : PyData → Str) (K : PySem.W.Frag) : Sp := fun vs H Q _ => ∃ (x : V) (d : PyData), vs = [x] ∧ Dq K H x d ∧ p d = true ∧ ∀ H', Same H H' → Q (.str (g d)) H'
theorem dq1 {H : Hp} {x : V} {s : Str} (h : Dq K H x (.str s)) : x = .str s := by cases h; rfl
theorem dqt {H : Hp} {x : V} {ds : List PyData} (h : Dq K H x (.tuple ds)) : ∃ (a : Addr) (xs : List V), x = .ref a ∧ H a = some (.tup xs) ∧ DqAll K H xs ds := by
  cases h with
  | tup e h => exact ⟨_, _, rfl, e, h⟩
theorem all2 {H : Hp} {xs : List V} {s t : Str} (h : DqAll K H xs [.str s, .str t]) : xs = [.str s, .str t] := by
  cases h with
  | cons a h =>
  cases h with
  | cons b h =>
  cases h
  rw [dq1 a, dq1 b]
theorem all3 {H : Hp} {xs : List V} {s t u : Str} (h : DqAll K H xs [.str s, .str t, .str u]) : xs = [.str s, .str t, .str u] := by
  cases h with
  | cons a h =>
  cases h with
  | cons b h =>
  cases h with
  | cons c h =>
  cases h
  rw [dq1 a, dq1 b, dq1 c]
theorem t1 {s : Str} (h : isLetterS s = true) : Tok s 1 := by
  obtain ⟨_, e, t⟩ := letter_tok (d := .str s) h
  cases e; exact t
theorem t3 {s : Str} (h : isGoal (.str s) = true) : Tok s 3 := by
  obtain ⟨_, e, t⟩ := goal_tok h
  cases e; exact t
def jtP (H0 : Hp) (g : PyData → Str) (ds : List PyData) (D : Addr) (j : Nat) (H : Hp) : Prop := Same H0 H ∧ H D = some (.lst (((ds.take j).map g).map V.str))
theorem sc_qs : FnScope ["_law_quiz_here", "_law_mark", "_law_one", "_law_two"] ["_law_quiz_here"] (defScope (top 51)) := ⟨rfl, rfl, rfl, by decide +kernel, rfl, by decide +kernel, by decide +kernel⟩
theorem ok_qs {f : Addr} {fd : FuncData} (T : Tx mg) (F : FD K "_law_quiz_said" (top 51) f fd) : FnOk P w K mg base CX0 1 f fd ["_law_quiz_here"] (spText isTest testText K) := by
  refine F.ok sc_qs (fun vs H Q E h => ?_) (fun cdv A outer s H vs Q E hr h => ?_)
  · obtain ⟨_, _, rfl, _⟩ := h
    rfl
  · obtain ⟨x, d, rfl, hx, hd, k⟩ := h
    have nd := sc_qs.nd
    refine ⟨_, (pss_one (ps_ret (pe_join (pe_op op_add_str (pe_op op_add_str pe_str (pe_ix (r := rIxT K) ix_tup (pv 0) pe_int (fun _ _ => rfl))) pe_str) (pe_lc (own := [("_law_mark", 1), ("_law_one", 2), ("_law_two", 3)]) rfl nd (pi_tup (pe_ix (r := rIxT K) ix_tup (pv 0) pe_int (fun _ _ => rfl))) (blkOk_by (N := ["_law_quiz_here", "_law_mark", "_law_one", "_law_two"]) (sc := defScope (top 51)) (by decide +kernel)) (fun _ _ _ _ _ => (pg_tupK (K := K) (n := 3) rfl rfl (pgs_cons (pg_name (i := 1) nd rfl (Or.inl rfl) (hf := Or.inr rfl)) (pgs_cons (pg_name (i := 2) nd rfl (Or.inl rfl) (hf := Or.inr rfl)) (pgs_cons (pg_name (i := 3) nd rfl (Or.inl rfl) (hf := Or.inr rfl)) pgs_nil))) rfl rfl)) (fun _ _ _ _ _ => pts_nil) (fun _ _ _ _ _ => (pe_op op_add_str (pe_op op_add_str (pe_op op_add_str (pe_op op_add_str (pv 2) pe_str) (pv 1)) pe_str) (pv 3))))))), ?_⟩
    obtain ⟨kk, cs, rfl, hk, hl, hc⟩ := test_cases hd
    obtain ⟨p, xs, rfl, e, h⟩ := dqt hx
    cases h with
    | cons h1 h =>
    cases h with
    | cons h2 h =>
    cases h
    obtain rfl := dq1 h1
    obtain ⟨p2, ys, rfl, e2, h⟩ := dqt h2
    have hlen := h.len
    have ts : Tok " " 1 := ⟨by decide, by decide +kernel⟩
    have tk : Tok kk 3 := by rcases hk with rfl | rfl <;> exact ⟨by decide, by decide +kernel⟩
    walk_at "rd"
    refine ⟨_, SqT.of e, _, atI_nn (by decide) rfl, _, rfl, ln ts tk (by decide), ln (ts.app tk) ts (by decide), ?_⟩
    refine ⟨⟨_, rfl⟩, _, SqT.of e, _, atI_nn (by decide) rfl, p2, rfl, ⟨_, SqT.of e2⟩, lc_t (xs := ys) (jtP H compText cs) fun D hD => ⟨⟨same_new hD, upd_same⟩, fun j H3 _ hP => SqT.of (hP.1 _ _ e2), ?_, ?_⟩⟩
    · rintro j x1 H3 hj ⟨hs3, hL⟩
      obtain ⟨c, hc1, hc2⟩ := h.atV hj
      obtain ⟨s, a, b, rfl, hs, ha, hb⟩ := comp_cases (hc c (List.mem_of_getElem? hc1))
      obtain ⟨p3, zs, rfl, e3, h3⟩ := dqt (hc2.up hs3)
      obtain rfl := all3 h3
      have ta := t1 ha
      have tb := t3 hb
      have tg : Tok s 2 := by rcases hs with rfl | rfl <;> exact ⟨by decide, by decide +kernel⟩
      unfold Lturn
      walk_at "rd"
      refine ⟨_, SqT.of e3, by rfl, ?_⟩
      walk_at "rd"
      refine ⟨ln ta ts (by decide), ln (ta.app ts) tg (by decide), ln ((ta.app ts).app tg) ts (by decide), ln (((ta.app ts).app tg).app ts) tb (by decide), _, hL, ?_, fun b' o e' => ?_, ?_⟩
      · rw [List.length_map, List.length_map]
        have : (List.take j cs).length ≤ cs.length := List.length_take_le' _ _
        rw [sizeLine_eq]
        omega
      · rw [upd_ne (ne_of_none e' hD)]; exact hs3 b' o e'
      · rw [upd_same, List.take_succ, hc1, List.map_append, List.map_append]; rfl
    · rintro H3 ⟨hs3, hL⟩
      rw [hlen, List.take_length] at hL
      have tj := test_tok hd
      have hsum := sum_const (fun c => (compText c).length) 8 cs fun c h1 => (comp_tok (hc c h1)).len
      have tkk := ((ts.app tk).app ts).len
      refine ⟨D, rfl, cs.map compText, .inl (SqL.of hL), ?_, ?_⟩
      · rw [List.map_map, List.length_map]
        have h2 : cs.length * (" " ++ kk ++ " ").length ≤ 3 * 5 := Nat.mul_le_mul hl.2 tkk
        have h3 : (cs.map ((fun x : Str => x.length) ∘ compText)).sum = (cs.map fun c => (compText c).length).sum := rfl
        rw [h3]
        omega
      · exact k _ hs3
end
end K40

set_option Elab.async false
set_option linter.all false
set_option maxRecDepth 100000
set_option maxHeartbeats 4000000
namespace K40
open PySem PySem.Spec PyProof.Rows L2 Rd Dt Dq Pk
local macro_rules | `(tactic| walk_at "rd") => `(tactic| try simp only [tVar_, tC_, tM1,  tOp_, tUn_, rI_, rI0_, rU_, eq_ii, ne_ii, eq_ss, ne_ss, eq_bb, ne_bb, tAndV_, tOrV_, tNotV_, tIf_, tTest_, tB_, tAnd_, tOr_, tNot_, tChain_, tNil_, tCons_, tTup_, tLst_, tCB_, tCall_, tSeq_, tNext_, tRet_, tRetN_, tDrop_, tBreak_, tNever_, tIfS_, tAsg_, gName_, gTup_, gCons_, gNil_, gSub_, tPar_, tPar3_, tSl_, tNoPart_, tPart_, tBM_, tFor_range1, tFor_range2, tFor_list, tFor_tup,
  L2.start, List.map_cons, List.map_nil, List.length_cons, List.length_nil, List.replicate, List.append_nil, List.nil_append, List.cons_append, List.getElem?_cons_zero, List.getElem?_cons_succ, List.set_cons_zero, List.set_cons_succ, Option.some.injEq, V.int.injEq, V.bl.injEq, V.str.injEq, V.ref.injEq, exists_eq_left, exists_eq_left', exists_eq_right, exists_eq, exists_and_left, and_true, true_and, decide_eq_true_eq, Nat.reduceAdd, Nat.reduceSub, Nat.add_zero, Nat.zero_add, List.cons.injEq, Bool.not_eq_true', decide_eq_false_iff_not, eq_self, reduceCtorEq, Bool.false_eq_true, if_true, if_false, ite_true, ite_false, and_self, tLc_range1, tLc_range2, tLc_list, tLc_tup, tYes_, wipe0, wipe1, tCallS_, rIxL_, rIxT_, rSlL_, rCat_, rSetL_, rRep_, rGcd_, tCallK_, gUnl_, tRaise_, decide_true, decide_false, not_true_eq_false, not_false_eq_true, false_and, or_false, false_or, and_false, and_assoc, exists_const, forall_const, forall_eq'])

section
variable {P : Program} {w : World} {K : PySem.W.Frag} {mg : Str → Option Value} {base : Heap}
def spTextC (p : PyData → Bool) (c : PyData → Nat) (g : PyData → Str) (K : PySem.W.Frag) : Sp := fun vs H Q _ => ∃ (x : V) (d : PyData), vs = [x] ∧ Dq K H x d ∧ p d = true ∧ c d ≤ 1000 ∧ ∀ H', Same H H' → Q (.str (g d)) H'
def spSTx (K : PySem.W.Frag) (n : Nat) : Sp := spTextC (isSt n) (cntSt n) (stText n) K
def spTTx (K : PySem.W.Frag) (n : Nat) : Sp := spTextC (treeOf (isSt n)) (cntOf (cntSt n)) (treeTextOf (stText n)) K
def spTTP (K : PySem.W.Frag) : Nat → Sp
  | 0 => fun _ _ _ _ => False
  | n + 1 => spTTx K n
theorem treeTok {n : Nat} (hn : n ≤ 4) {d : PyData} (h : treeOf (isSt n) d = true) (hc : cntOf (cntSt n) d ≤ 1000) : Tok (treeTextOf (stText n) d) 74004 := by
  refine (tree_tok (st_tok n) h).mono ?_
  have : (64 + 2 * n + 2) * cntOf (cntSt n) d ≤ 74 * 1000 := Nat.mul_le_mul (by omega) hc
  omega
theorem stTok {n : Nat} (hn : n ≤ 4) {d : PyData} (h : isSt n d = true) (hc : cntSt n d ≤ 1000) : Tok (stText n d) 72000 := by
  refine (st_tok n d h).mono ?_
  have : (64 + 2 * n) * cntSt n d ≤ 72 * 1000 := Nat.mul_le_mul (by omega) hc
  omega
theorem mem_sum_le {α : Type} (f : α → Nat) : ∀ (l : List α) (x : α), x ∈ l → f x ≤ (l.map f).sum
  | [], _, h => nomatch h
  | y :: l, x, h => by
    simp only [List.map_cons, List.sum_cons]
    rcases List.mem_cons.mp h with rfl | h
    · omega
    · have := mem_sum_le f l x h
      omega
theorem len_le_cnt (n : Nat) : ∀ l : List PyData, l.length ≤ (l.map (cntSt n)).sum
  | [] => Nat.le_refl _
  | x :: l => by
    simp only [List.map_cons, List.sum_cons, List.length_cons]
    have := cntSt_pos n x
    have := len_le_cnt n l
    omega
theorem join_room {n : Nat} (hn : n ≤ 4) {ds : List PyData} (hds : ∀ c ∈ ds, isSt n c = true) (hcn : (ds.map (cntSt n)).sum ≤ 1000) : ((ds.map (stText n)).map (fun x => x.length)).sum + (ds.map (stText n)).length * (Str.ofString "; ").length ≤ 16777216 := by
  rw [List.map_map, List.length_map]
  have h1 := sum_map_le ((fun x : Str => x.length) ∘ stText n) (fun c => 72 * cntSt n c) ds fun c hc => Nat.le_trans (st_tok n c (hds c hc)).len (Nat.mul_le_mul (by omega) (Nat.le_refl _))
  have h2 : ∀ l : List PyData, (l.map fun d => 72 * cntSt n d).sum = 72 * (l.map (cntSt n)).sum := fun l => by
    induction l with
    | nil => rfl
    | cons x l ih => simp only [List.map_cons, List.sum_cons, ih, Nat.mul_add]
  rw [h2] at h1
  have h3 := len_le_cnt n ds
  have e : (Str.ofString "; ").length = 2 := by decide
  rw [e]
  omega
theorem deedV {H : Hp} {x : V} {d : PyData} (hx : Dq K H x d) (hd : isDeed d = true) : ∃ (k : Str) (b : Addr) (zs : List V), x = .ref b ∧ H b = some (.tup (.str k :: zs)) ∧ (k ≠ "if" ∧ k ≠ "while") := by
  rcases deed_cases hd with ⟨k, a, rfl, _, hk⟩ | ⟨k, a, b, rfl, _, hk⟩
  · obtain ⟨p, xs, rfl, e, h⟩ := dqt hx
    obtain rfl := all2 h
    exact ⟨k, p, _, rfl, e, ne_if (by rcases hk with z | z <;> simp [z])⟩
  · obtain ⟨p, xs, rfl, e, h⟩ := dqt hx
    obtain rfl := all3 h
    exact ⟨k, p, _, rfl, e, ne_if (by rcases hk with ⟨z, _⟩ | ⟨z | z, _⟩ <;> simp [z])⟩
theorem ln' {a b : Str} {n m : Nat} (ta : Tok a n) (tb : Tok b m) (h : n + m ≤ 1000000) : a.length + b.length ≤ sizeLine := ln ta tb h
theorem if_text {n : Nat} {t a b : PyData} : stText (n + 1) (.tuple [.str "if", t, a, b]) = ("if " ++ testText t ++ " { " ++ treeTextOf (stText n) a ++ " }") ++ (if noRows b = true then ("" : Str) else " else { " ++ treeTextOf (stText n) b ++ " }") := by conv => { lhs; unfold stText }; exact if_pos rfl
theorem while_text {n : Nat} {t a : PyData} : stText (n + 1) (.tuple [.str "while", t, a]) = "while " ++ testText t ++ " { " ++ treeTextOf (stText n) a ++ " }" := by conv => { lhs; unfold stText }; exact if_pos rfl
theorem if_cnt {n : Nat} {t a b : PyData} : cntSt (n + 1) (.tuple [.str "if", t, a, b]) = 1 + (cntOf (cntSt n) a + cntOf (cntSt n) b) := by unfold cntSt; exact if_pos rfl
theorem while_cnt {n : Nat} {t a : PyData} : cntSt (n + 1) (.tuple [.str "while", t, a]) = 1 + cntOf (cntSt n) a := by unfold cntSt; exact if_pos rfl
end
end K40

set_option Elab.async false
set_option linter.all false
set_option maxRecDepth 100000
set_option maxHeartbeats 4000000
namespace K40
open PySem PySem.Spec PyProof.Rows L2 Rd Dt Dq Pk
local macro_rules | `(tactic| walk_at "rd") => `(tactic| try simp only [tVar_, tC_, tM1,  tOp_, tUn_, rI_, rI0_, rU_, eq_ii, ne_ii, eq_ss, ne_ss, eq_bb, ne_bb, tAndV_, tOrV_, tNotV_, tIf_, tTest_, tB_, tAnd_, tOr_, tNot_, tChain_, tNil_, tCons_, tTup_, tLst_, tCB_, tCall_, tSeq_, tNext_, tRet_, tRetN_, tDrop_, tBreak_, tNever_, tIfS_, tAsg_, gName_, gTup_, gCons_, gNil_, gSub_, tPar_, tPar3_, tSl_, tNoPart_, tPart_, tBM_, tFor_range1, tFor_range2, tFor_list, tFor_tup,
  L2.start, List.map_cons, List.map_nil, List.length_cons, List.length_nil, List.replicate, List.append_nil, List.nil_append, List.cons_append, List.getElem?_cons_zero, List.getElem?_cons_succ, List.set_cons_zero, List.set_cons_succ, Option.some.injEq, V.int.injEq, V.bl.injEq, V.str.injEq, V.ref.injEq, exists_eq_left, exists_eq_left', exists_eq_right, exists_eq, exists_and_left, and_true, true_and, decide_eq_true_eq, Nat.reduceAdd, Nat.reduceSub, Nat.add_zero, Nat.zero_add, List.cons.injEq, Bool.not_eq_true', decide_eq_false_iff_not, eq_self, reduceCtorEq, Bool.false_eq_true, if_true, if_false, ite_true, ite_false, and_self, tLc_range1, tLc_range2, tLc_list, tLc_tup, tYes_, wipe0, wipe1, tCallS_, rIxL_, rIxT_, rSlL_, rCat_, rSetL_, rRep_, rGcd_, tCallK_, gUnl_, tRaise_, decide_true, decide_false, not_true_eq_false, not_false_eq_true, false_and, or_false, false_or, and_false, and_assoc, exists_const, forall_const, forall_eq'])

section
variable {P : Program} {w : World} {K : PySem.W.Frag} {mg : Str → Option Value} {base : Heap}
def saP (H0 : Hp) (a0 p : Addr) (n : Nat) (ds : List PyData) (j : Nat) : L2.St → Hp → Prop := fun σ H => Same H0 H ∧ H p = some (.lst (((ds.take j).map (stText n)).map V.str)) ∧ ∃ (y z : Option V), σ = [some (.ref a0), some (.ref p), y, z]
theorem shaped_strs {l : List Str} (h : ∀ s ∈ l, PyData.strOk s = true) : SeqAt.shaped (.list (l.map .str)) = true := by
  have h1 : ∀ l : List Str, (∀ s ∈ l, PyData.strOk s = true) → PyData.canLayAll0 (l.map .str) = true ∧ PyData.depthAll (l.map PyData.str) = 0 := fun l => by
    induction l with
    | nil => intro _; exact ⟨rfl, rfl⟩
    | cons x l ih =>
      intro h
      obtain ⟨i1, i2⟩ := ih fun s hs => h s (List.mem_cons_of_mem _ hs)
      refine ⟨?_, ?_⟩
      · rw [List.map_cons, PyData.canLayAll0, PyData.canLay0, h x List.mem_cons_self, i1]; rfl
      · rw [List.map_cons, PyData.depthAll, PyData.depth, i2]; rfl
  obtain ⟨i1, i2⟩ := h1 l h
  show (PyData.canLay0 _ && decide (PyData.depth _ ≤ 64)) = true
  rw [PyData.canLay0, PyData.depth, i1, i2]; rfl
theorem dp_strs {H : Hp} : ∀ l : List Str, DpAll K H (l.map V.str) (l.map PyData.str)
  | [] => .nil
  | x :: l => .cons (.str x) (dp_strs l)
theorem eqv_nil (l : List PyData) : PyData.eqv (.list l) (.list []) = l.isEmpty := by
  cases l <;> rfl
/-- an if's branches held back -/
theorem iq {tt : TT} {t u : TS} {D : Ends} {σ : L2.St} {H : Hp} (h : ∀ T U : Hp → Prop, (∀ H', t D σ H' → T H') → (∀ H', u D σ H' → U H') → tt σ H (fun b H1 => if b = true then T H1 else U H1)) : tIfS tt t u D σ H := h (t D σ) (u D σ) (fun _ x => x) (fun _ x => x)
end
end K40

set_option Elab.async false
set_option linter.all false
set_option maxRecDepth 100000
set_option maxHeartbeats 2000000
/-! the words of programs, and their texts as words -/
namespace K40
open PySem PySem.Spec PyProof.Rows L2 Rd Dt Dq TL
def plain (w : Str) : Bool := !(tl w).isEmpty && ((tl w).all fun c => decide (c ≠ 32) && decide (c ≠ 59))
def raw (w : Str) : Bool := !(tl w).isEmpty && (!(decide (w = ";")) && ((tl w).all fun c => decide (c ≠ 32)))
def sp1 (w : Str) : List Str := if Txt.endswith w ";" = true then [cutS w none (some (-1)), ";"] else [w]
theorem tl_semi : tl ";" = [59] := by decide +kernel
theorem ends_snoc {x : Str} {l : List Nat} {c : Nat} (h : tl x = l ++ [c]) : Txt.endswith x ";" = decide (c = 59) := by
  have hl : x.length = l.length + 1 := by rw [len_tl, h]; simp
  show (decide (0 + (";" : Str).length ≤ x.length) && Builtin.Str.subAt x ";" (x.length - (";" : Str).length)) = _
  rw [StrLaws.subAt_eq, show x.cps.toList = l ++ [c] from h, show (";" : Str).cps.toList = [59] from tl_semi, show (";" : Str).length = 1 from by decide, hl]
  rw [decide_eq_true (show 0 + 1 ≤ l.length + 1 by omega), Bool.true_and, Nat.add_sub_cancel, List.drop_left]
  show (([c] : List Nat) == [59]) = _
  by_cases z : c = 59
  · subst z; rfl
  · rw [decide_eq_false z, beq_eq_false_iff_ne]
    intro e
    exact z (List.cons.inj e).1
theorem ends_app (a : Str) : Txt.endswith (a ++ ";") ";" = true := by
  rw [ends_snoc (l := tl a) (c := 59) (by rw [tl_append, tl_semi])]; rfl
theorem plain_snoc {w : Str} (h : plain w = true) : ∃ l c, tl w = l ++ [c] ∧ c ≠ 59 := by
  obtain ⟨h1, h2⟩ := Bool.and_eq_true_iff.mp h
  have hne : tl w ≠ [] := fun z => by rw [z] at h1; cases h1
  refine ⟨(tl w).dropLast, (tl w).getLast hne, (List.dropLast_concat_getLast hne).symm, ?_⟩
  have := List.all_eq_true.mp h2 _ (List.getLast_mem hne)
  exact of_decide_eq_true (Bool.and_eq_true_iff.mp this).2
theorem ends_plain {w : Str} (h : plain w = true) : Txt.endswith w ";" = false := by
  obtain ⟨l, c, e, n⟩ := plain_snoc h
  rw [ends_snoc e, decide_eq_false n]
theorem cut_app (a : Str) : cutS (a ++ ";") none (some (-1)) = a := by
  refine ext_tl ?_
  have hl : (a ++ (";" : Str)).length = (tl a).length + 1 := by rw [len_tl, tl_append, tl_semi]; simp
  have e1 : HT.sIx (a ++ (";" : Str)).length 0 none = 0 := rfl
  have e2 : HT.sIx (a ++ (";" : Str)).length (a ++ (";" : Str)).length (some (-1)) = (tl a).length := by
    show (if (-1 : Int) < 0 then ((-1 : Int) + ((a ++ (";" : Str)).length : Int)).toNat else min (-1 : Int).toNat (a ++ (";" : Str)).length) = _
    rw [if_pos (by decide), hl]
    omega
  unfold cutS
  rw [e1, e2]
  show (List.take ((tl a).length - 0) (List.drop 0 (tl (a ++ ";")))) = tl a
  rw [tl_append, List.drop_zero, Nat.sub_zero, List.take_left]
theorem sp1_plain {w : Str} (h : plain w = true) : sp1 w = [w] := by
  unfold sp1
  rw [ends_plain h]
  rfl
theorem sp1_app (a : Str) : sp1 (a ++ ";") = [a, ";"] := by
  unfold sp1
  rw [ends_app, if_pos rfl, cut_app]
theorem raw_plain {w : Str} (h : plain w = true) : raw w = true := by
  obtain ⟨h1, h2⟩ := Bool.and_eq_true_iff.mp h
  unfold raw
  rw [h1, Bool.true_and, Bool.and_eq_true]
  refine ⟨?_, ?_⟩
  · rw [Bool.not_eq_true', decide_eq_false_iff_not]
    intro z
    rw [z, tl_semi] at h2
    cases h2
  · rw [List.all_eq_true]
    intro c hc
    exact (Bool.and_eq_true_iff.mp (List.all_eq_true.mp h2 c hc)).1
theorem raw_semi {w : Str} (h : plain w = true) : raw (w ++ ";") = true := by
  obtain ⟨h1, h2⟩ := Bool.and_eq_true_iff.mp h
  have hne : tl w ≠ [] := fun z => by rw [z] at h1; cases h1
  unfold raw
  rw [tl_append, tl_semi]
  rw [Bool.and_eq_true, Bool.and_eq_true]
  refine ⟨by simp, ?_, ?_⟩
  · rw [Bool.not_eq_true', decide_eq_false_iff_not]
    intro z
    have z2 := congrArg tl z
    rw [tl_append, tl_semi] at z2
    exact hne (List.append_left_eq_self.mp z2)
  · rw [List.all_append, Bool.and_eq_true]
    refine ⟨?_, by decide⟩
    rw [List.all_eq_true]
    intro c hc
    exact (Bool.and_eq_true_iff.mp (List.all_eq_true.mp h2 c hc)).1
theorem join_app : ∀ {ws vs : List Str}, ws ≠ [] → vs ≠ [] → Str.join " " (ws ++ vs) = Str.join " " ws ++ " " ++ Str.join " " vs
  | [], _, h, _ => absurd rfl h
  | [x], [], _, h => absurd rfl h
  | [x], y :: r, _, _ => rfl
  | x :: y :: r, vs, _, h => by
    show x ++ " " ++ Str.join " " (y :: r ++ vs) = x ++ " " ++ Str.join " " (y :: r) ++ " " ++ Str.join " " vs
    rw [join_app (by simp) h]
    simp only [Str.append_assoc]
theorem join_semi (ini : List Str) (l : Str) : Str.join " " (ini ++ [l]) ++ ";" = Str.join " " (ini ++ [l ++ ";"]) := by
  cases ini with
  | nil => rfl
  | cons x r =>
    rw [join_app (by simp) (by simp), join_app (by simp) (by simp)]
    show Str.join " " (x :: r) ++ " " ++ l ++ ";" = Str.join " " (x :: r) ++ " " ++ (l ++ ";")
    simp only [Str.append_assoc]
/-- a text whose words are these -/
def Tk (s : Str) (ts : List Str) : Prop := ∃ (ini : List Str) (l : Str), s = Str.join " " (ini ++ [l]) ∧ (∀ w ∈ ini, raw w = true) ∧ plain l = true ∧ ini.flatMap sp1 ++ [l] = ts
theorem Tk.w1 {w : Str} (h : plain w = true) : Tk w [w] := ⟨[], w, rfl, (fun _ z => nomatch z), h, rfl⟩
theorem Tk.app {a b : Str} {ts us : List Str} (h : Tk a ts) (g : Tk b us) : Tk (a ++ " " ++ b) (ts ++ us) := by
  obtain ⟨i1, l1, rfl, r1, p1, rfl⟩ := h
  obtain ⟨i2, l2, rfl, r2, p2, rfl⟩ := g
  refine ⟨i1 ++ [l1] ++ i2, l2, ?_, fun w hw => ?_, p2, ?_⟩
  · rw [List.append_assoc (i1 ++ [l1]), join_app (ws := i1 ++ [l1]) (vs := i2 ++ [l2]) (by simp) (by simp)]
  · rcases List.mem_append.mp hw with hw | hw
    · rcases List.mem_append.mp hw with hw | hw
      · exact r1 w hw
      · rw [List.mem_singleton.mp hw]; exact raw_plain p1
    · exact r2 w hw
  · rw [List.flatMap_append, List.flatMap_append, List.flatMap_cons, List.flatMap_nil, sp1_plain p1]
    simp only [List.append_assoc, List.append_nil]
theorem Tk.seq {a b : Str} {ts us : List Str} (h : Tk a ts) (g : Tk b us) : Tk (a ++ "; " ++ b) (ts ++ (";" : Str) :: us) := by
  obtain ⟨i1, l1, rfl, r1, p1, rfl⟩ := h
  obtain ⟨i2, l2, rfl, r2, p2, rfl⟩ := g
  have e : ("; " : Str) = ";" ++ " " := by decide +kernel
  refine ⟨i1 ++ [l1 ++ ";"] ++ i2, l2, ?_, fun w hw => ?_, p2, ?_⟩
  · rw [e, ← Str.append_assoc, join_semi, List.append_assoc (i1 ++ [l1 ++ ";"]), join_app (ws := i1 ++ [l1 ++ ";"]) (vs := i2 ++ [l2]) (by simp) (by simp)]
  · rcases List.mem_append.mp hw with hw | hw
    · rcases List.mem_append.mp hw with hw | hw
      · exact r1 w hw
      · rw [List.mem_singleton.mp hw]; exact raw_semi p1
    · exact r2 w hw
  · rw [List.flatMap_append, List.flatMap_append, List.flatMap_cons, List.flatMap_nil, sp1_app]
    simp only [List.append_assoc, List.append_nil, List.cons_append, List.nil_append]
/-! ### the words of trees -/
def joinW (k : Str) : List (List Str) → List Str
  | [] => []
  | [x] => x
  | x :: y :: r => x ++ k :: joinW k (y :: r)
def deedW : PyData → List Str
  | .tuple [.str k, .str a] => if k = "new" then [a, "=", "new"] else ["drop", a]
  | .tuple [.str k, .str a, .str b] => if k = "next" then [a, "=", "next", b] else if k = "tie" then ["next", a, "=", b] else [a, "=", b]
  | _ => []
def compW : PyData → List Str
  | .tuple [.str s, .str a, .str b] => [a, s, b]
  | _ => []
def testW : PyData → List Str
  | .tuple [.str k, .tuple cs] => joinW k (cs.map compW)
  | _ => []
def treeW (f : PyData → List Str) : PyData → List Str
  | .tuple ds => if ds = [] then ["none"] else joinW ";" (ds.map f)
  | _ => []
def elseW (lg : Bool) (f : PyData → List Str) (b : PyData) : List Str := if (!lg && noRows b) = true then [] else ("else" : Str) :: ("{" : Str) :: (treeW f b ++ [("}" : Str)])
def stW (lg : Bool) : Nat → PyData → List Str
  | 0, d => deedW d
  | n + 1, d => match d with
    | .tuple [.str k, t, a, b] => if k = "if" then ("if" : Str) :: (testW t ++ ("{" : Str) :: (treeW (stW lg n) a ++ ("}" : Str) :: elseW lg (stW lg n) b)) else deedW d
    | .tuple [.str k, t, a] => if k = "while" then ("while" : Str) :: (testW t ++ ("{" : Str) :: (treeW (stW lg n) a ++ [("}" : Str)])) else deedW d
    | _ => deedW d
def ltText : Nat → PyData → Str
  | 0, d => deedText d
  | n + 1, d => match d with
    | .tuple [.str k, t, a, b] => if k = "if" then ("if " ++ testText t) ++ (" { " ++ treeTextOf (ltText n) a ++ " } else { " ++ treeTextOf (ltText n) b ++ " }") else deedText d
    | .tuple [.str k, t, a] => if k = "while" then "while " ++ testText t ++ " { " ++ treeTextOf (ltText n) a ++ " }" else deedText d
    | _ => deedText d
theorem plain_letter {s : Str} (h : isLetterS s = true) : plain s = true := by
  unfold isLetterS at h
  split at h
  · rename_i c e
    have m : c ∈ abc.cps.toList := of_decide_eq_true h
    have all : ∀ c ∈ abc.cps.toList, c ≠ 32 ∧ c ≠ 59 := by decide +kernel
    unfold plain
    rw [show tl s = [c] from e]
    simp [all c m]
  · cases h
theorem plain_goal {s : Str} (h : isGoal (.str s) = true) : plain s = true := by
  rcases Bool.or_eq_true_iff.mp (show (isLetterS s || decide (s = "END")) = true from h) with z | z
  · exact plain_letter z
  · rw [of_decide_eq_true z]; decide +kernel
theorem p_eq : plain "=" = true := by decide +kernel
theorem p_new : plain "new" = true := by decide +kernel
theorem p_next : plain "next" = true := by decide +kernel
theorem p_drop : plain "drop" = true := by decide +kernel
theorem app_empty (a : Str) : "" ++ a = a := ext_tl (by rw [tl_append]; rfl)
theorem app_empty' (a : Str) : a ++ "" = a := ext_tl (by rw [tl_append]; exact List.append_nil _)
theorem deed_Tk {d : PyData} (h : isDeed d = true) : Tk (deedText d) (deedW d) := by
  rcases deed_cases h with ⟨k, a, rfl, ha, hk⟩ | ⟨k, a, b, rfl, ha, hk⟩
  · have wa := Tk.w1 (plain_letter ha)
    show Tk (if k = "new" then a ++ " = new" else "drop " ++ a) (if k = "new" then [a, "=", "new"] else ["drop", a])
    split
    · have e : a ++ (" = new" : Str) = a ++ " " ++ "=" ++ " " ++ "new" := by
        rw [show (" = new" : Str) = " " ++ "=" ++ " " ++ "new" by decide +kernel]
        simp only [Str.append_assoc]
      rw [e]
      exact (wa.app (Tk.w1 p_eq)).app (Tk.w1 p_new)
    · rw [show ("drop " : Str) = "drop" ++ " " by decide +kernel]
      exact (Tk.w1 p_drop).app wa
  · have wa := Tk.w1 (plain_letter ha)
    have wb : Tk b [b] := by
      rcases hk with ⟨_, z⟩ | ⟨_, z⟩
      · exact Tk.w1 (plain_letter z)
      · exact Tk.w1 (plain_goal z)
    show Tk (if k = "next" then a ++ " = next " ++ b else (if k = "tie" then ("next " : Str) else "") ++ a ++ " = " ++ b) (if k = "next" then [a, "=", "next", b] else if k = "tie" then ["next", a, "=", b] else [a, "=", b])
    have e3 : a ++ (" = " : Str) ++ b = a ++ " " ++ "=" ++ " " ++ b := by
      rw [show (" = " : Str) = " " ++ "=" ++ " " by decide +kernel]
      simp only [Str.append_assoc]
    by_cases k1 : k = "next"
    · rw [if_pos k1, if_pos k1]
      have e : a ++ (" = next " : Str) ++ b = a ++ " " ++ "=" ++ " " ++ "next" ++ " " ++ b := by
        rw [show (" = next " : Str) = " " ++ "=" ++ " " ++ "next" ++ " " by decide +kernel]
        simp only [Str.append_assoc]
      rw [e]
      exact ((wa.app (Tk.w1 p_eq)).app (Tk.w1 p_next)).app wb
    · rw [if_neg k1, if_neg k1]
      by_cases k2 : k = "tie"
      · rw [if_pos k2, if_pos k2]
        have e : ("next " : Str) ++ a ++ (" = " : Str) ++ b = "next" ++ " " ++ a ++ " " ++ "=" ++ " " ++ b := by
          rw [show (" = " : Str) = " " ++ "=" ++ " " by decide +kernel, show ("next " : Str) = "next" ++ " " by decide +kernel]
          simp only [Str.append_assoc]
        rw [e]
        exact (((Tk.w1 p_next).app wa).app (Tk.w1 p_eq)).app wb
      · rw [if_neg k2, if_neg k2, app_empty, e3]
        exact (wa.app (Tk.w1 p_eq)).app wb
theorem comp_Tk {d : PyData} (h : isComp d = true) : Tk (compText d) (compW d) := by
  obtain ⟨s, a, b, rfl, hs, ha, hb⟩ := comp_cases h
  have ps : plain s = true := by rcases hs with rfl | rfl <;> decide +kernel
  exact ((Tk.w1 (plain_letter ha)).app (Tk.w1 ps)).app (Tk.w1 (plain_goal hb))
theorem joinK_Tk {k : Str} (pk : plain k = true) : ∀ (c : PyData) (cs : List PyData), (∀ x ∈ c :: cs, isComp x = true) → Tk (Str.join (" " ++ k ++ " ") ((c :: cs).map compText)) (joinW k ((c :: cs).map compW))
  | c, [], h => comp_Tk (h c List.mem_cons_self)
  | c, c2 :: r, h => by
    have ih := joinK_Tk pk c2 r fun x hx => h x (List.mem_cons_of_mem _ hx)
    show Tk (compText c ++ (" " ++ k ++ " ") ++ Str.join (" " ++ k ++ " ") ((c2 :: r).map compText)) (compW c ++ k :: joinW k ((c2 :: r).map compW))
    have := ((comp_Tk (h c List.mem_cons_self)).app (Tk.w1 pk)).app ih
    simp only [Str.append_assoc, List.append_assoc, List.cons_append, List.nil_append] at this ⊢
    exact this
theorem test_Tk {d : PyData} (h : isTest d = true) : Tk (testText d) (testW d) := by
  obtain ⟨k, cs, rfl, hk, hl, hc⟩ := test_cases h
  have pk : plain k = true := by rcases hk with rfl | rfl <;> decide +kernel
  cases cs with
  | nil => exact absurd hl.1 (by simp)
  | cons c cs =>
    show Tk (Txt.join (" " ++ k ++ " ") ((c :: cs).map compText)) (joinW k ((c :: cs).map compW))
    rw [show Txt.join (" " ++ k ++ " ") ((c :: cs).map compText) = Str.join (" " ++ k ++ " ") ((c :: cs).map compText) from StrLaws.glued_eq_join _ _]
    exact joinK_Tk pk c cs hc
theorem joinS_Tk {f : PyData → Str} {g : PyData → List Str} : ∀ (c : PyData) (cs : List PyData), (∀ x ∈ c :: cs, Tk (f x) (g x)) → Tk (Str.join "; " ((c :: cs).map f)) (joinW ";" ((c :: cs).map g))
  | c, [], h => h c List.mem_cons_self
  | c, c2 :: r, h => (h c List.mem_cons_self).seq (joinS_Tk c2 r fun x hx => h x (List.mem_cons_of_mem _ hx))
theorem tree_Tk {f : PyData → Str} {g : PyData → List Str} {p : PyData → Bool} (ih : ∀ d, p d = true → Tk (f d) (g d)) {d : PyData} (h : treeOf p d = true) : Tk (treeTextOf f d) (treeW g d) := by
  cases d with
  | tuple ds =>
    have h' : ∀ x ∈ ds, p x = true := List.all_eq_true.mp h
    unfold treeTextOf treeW
    dsimp only
    cases ds with
    | nil => rw [if_pos rfl, if_pos rfl]; exact Tk.w1 (by decide +kernel)
    | cons c cs =>
      rw [if_neg (by simp), if_neg (by simp)]
      rw [show Txt.join "; " ((c :: cs).map f) = Str.join "; " ((c :: cs).map f) from StrLaws.glued_eq_join _ _]
      exact joinS_Tk c cs fun x hx => ih x (h' x hx)
  | _ => cases h
theorem deed_st {d : PyData} (h : isDeed d = true) (lg : Bool) : ∀ n, stW lg n d = deedW d ∧ ltText n d = deedText d := by
  intro n
  cases n with
  | zero => exact ⟨rfl, rfl⟩
  | succ n =>
    rcases deed_cases h with ⟨k, a, rfl, _, _⟩ | ⟨k, a, b, rfl, _, hk⟩
    · exact ⟨rfl, rfl⟩
    · have := ne_if (k := k) (by rcases hk with ⟨z, _⟩ | ⟨z | z, _⟩ <;> simp [z])
      exact ⟨by unfold stW; exact if_neg this.2, by unfold ltText; exact if_neg this.2⟩
theorem stW_if {lg : Bool} {n : Nat} {t a b : PyData} : stW lg (n + 1) (.tuple [.str "if", t, a, b]) = ("if" : Str) :: (testW t ++ ("{" : Str) :: (treeW (stW lg n) a ++ ("}" : Str) :: elseW lg (stW lg n) b)) := by
  conv => { lhs; unfold stW }
  exact if_pos rfl
theorem stW_while {lg : Bool} {n : Nat} {t a : PyData} : stW lg (n + 1) (.tuple [.str "while", t, a]) = ("while" : Str) :: (testW t ++ ("{" : Str) :: (treeW (stW lg n) a ++ [("}" : Str)])) := by
  conv => { lhs; unfold stW }
  exact if_pos rfl
theorem lt_if {n : Nat} {t a b : PyData} : ltText (n + 1) (.tuple [.str "if", t, a, b]) = ("if " ++ testText t) ++ (" { " ++ treeTextOf (ltText n) a ++ " } else { " ++ treeTextOf (ltText n) b ++ " }") := by
  conv => { lhs; unfold ltText }
  exact if_pos rfl
theorem lt_while {n : Nat} {t a : PyData} : ltText (n + 1) (.tuple [.str "while", t, a]) = "while " ++ testText t ++ " { " ++ treeTextOf (ltText n) a ++ " }" := by
  conv => { lhs; unfold ltText }
  exact if_pos rfl
theorem st_if {n : Nat} {t a b : PyData} : stText (n + 1) (.tuple [.str "if", t, a, b]) = ("if " ++ testText t ++ " { " ++ treeTextOf (stText n) a ++ " }") ++ (if noRows b = true then ("" : Str) else " else { " ++ treeTextOf (stText n) b ++ " }") := by
  conv => { lhs; unfold stText }
  exact if_pos rfl
theorem st_while {n : Nat} {t a : PyData} : stText (n + 1) (.tuple [.str "while", t, a]) = "while " ++ testText t ++ " { " ++ treeTextOf (stText n) a ++ " }" := by
  conv => { lhs; unfold stText }
  exact if_pos rfl
theorem p_if : plain "if" = true := by decide +kernel
theorem p_while : plain "while" = true := by decide +kernel
theorem p_op : plain "{" = true := by decide +kernel
theorem p_cl : plain "}" = true := by decide +kernel
theorem p_else : plain "else" = true := by decide +kernel
theorem e_if : ("if " : Str) = "if" ++ " " := by decide +kernel
theorem e_while : ("while " : Str) = "while" ++ " " := by decide +kernel
theorem e_op : (" { " : Str) = " " ++ "{" ++ " " := by decide +kernel
theorem e_cl : (" }" : Str) = " " ++ "}" := by decide +kernel
theorem e_else : (" else { " : Str) = " " ++ "else" ++ " " ++ "{" ++ " " := by decide +kernel
theorem e_else2 : (" } else { " : Str) = " " ++ "}" ++ " " ++ "else" ++ " " ++ "{" ++ " " := by decide +kernel
theorem st_Tk : ∀ (n : Nat) (d : PyData), isSt n d = true → Tk (stText n d) (stW false n d)
  | 0, d, h => deed_Tk h
  | n + 1, d, h => by
    rcases st_cases h with z | ⟨t, a, b, rfl, ht, ha, hb⟩ | ⟨t, a, rfl, ht, ha⟩
    · rw [(deed_plain z (n + 1)).2, (deed_st z false (n + 1)).1]
      exact deed_Tk z
    · have base := ((((Tk.w1 p_if).app (test_Tk ht)).app (Tk.w1 p_op)).app (tree_Tk (st_Tk n) ha)).app (Tk.w1 p_cl)
      rw [st_if, stW_if]
      unfold elseW
      by_cases nb : noRows b = true
      · rw [if_pos nb, if_pos (by rw [nb]; rfl), app_empty', e_if, e_op, e_cl]
        simp only [Str.append_assoc, List.append_assoc, List.cons_append, List.nil_append] at base ⊢
        exact base
      · rw [if_neg nb, if_neg (by simp [nb])]
        have full := (((base.app (Tk.w1 p_else)).app (Tk.w1 p_op)).app (tree_Tk (st_Tk n) hb)).app (Tk.w1 p_cl)
        rw [e_if, e_op, e_cl, e_else]
        simp only [Str.append_assoc, List.append_assoc, List.cons_append, List.nil_append] at full ⊢
        exact full
    · have base := ((((Tk.w1 p_while).app (test_Tk ht)).app (Tk.w1 p_op)).app (tree_Tk (st_Tk n) ha)).app (Tk.w1 p_cl)
      rw [st_while, stW_while, e_while, e_op, e_cl]
      simp only [Str.append_assoc, List.append_assoc, List.cons_append, List.nil_append] at base ⊢
      exact base
theorem lt_Tk : ∀ (n : Nat) (d : PyData), isSt n d = true → Tk (ltText n d) (stW true n d)
  | 0, d, h => deed_Tk h
  | n + 1, d, h => by
    rcases st_cases h with z | ⟨t, a, b, rfl, ht, ha, hb⟩ | ⟨t, a, rfl, ht, ha⟩
    · rw [(deed_st z true (n + 1)).2, (deed_st z true (n + 1)).1]
      exact deed_Tk z
    · have base := ((((Tk.w1 p_if).app (test_Tk ht)).app (Tk.w1 p_op)).app (tree_Tk (lt_Tk n) ha)).app (Tk.w1 p_cl)
      rw [lt_if, stW_if]
      unfold elseW
      rw [if_neg (by simp)]
      have full := (((base.app (Tk.w1 p_else)).app (Tk.w1 p_op)).app (tree_Tk (lt_Tk n) hb)).app (Tk.w1 p_cl)
      rw [e_if, e_op, e_cl, e_else2]
      simp only [Str.append_assoc, List.append_assoc, List.cons_append, List.nil_append] at full ⊢
      exact full
    · have base := ((((Tk.w1 p_while).app (test_Tk ht)).app (Tk.w1 p_op)).app (tree_Tk (lt_Tk n) ha)).app (Tk.w1 p_cl)
      rw [lt_while, stW_while, e_while, e_op, e_cl]
      simp only [Str.append_assoc, List.append_assoc, List.cons_append, List.nil_append] at base ⊢
      exact base
/-- what split makes of such a text -/
theorem Tk.split {s : Str} {ts : List Str} (h : Tk s ts) : (∀ w ∈ Txt.split s " ", raw w = true) ∧ (Txt.split s " ").flatMap sp1 = ts ∧ (∀ w ∈ Txt.split s " ", w.length ≤ s.length) ∧ (Txt.split s " ").length ≤ s.length + 1 := by
  obtain ⟨ini, l, rfl, hr, hp, rfl⟩ := h
  have e32 : tl " " = 32 :: [] := by decide +kernel
  have all : ∀ w ∈ ini ++ [l], raw w = true := fun w hw => by
    rcases List.mem_append.mp hw with hw | hw
    · exact hr w hw
    · rw [List.mem_singleton.mp hw]; exact raw_plain hp
  have e : Txt.split (Str.join " " (ini ++ [l])) " " = ini ++ [l] := by
    rw [← join_eq]
    exact split_join e32 (by decide +kernel) (by simp) fun p hp => by
      intro z
      have := (Bool.and_eq_true_iff.mp (Bool.and_eq_true_iff.mp (all p hp)).2).2
      have := List.all_eq_true.mp this 32 z
      simp at this
  rw [e]
  refine ⟨all, ?_, ?_, ?_⟩
  · rw [List.flatMap_append, List.flatMap_cons, List.flatMap_nil, sp1_plain hp, List.append_nil]
  · have : ∀ (ws : List Str) (w : Str), w ∈ ws → w.length ≤ (Str.join " " ws).length := fun ws => by
      induction ws with
      | nil => intro w hw; cases hw
      | cons x r ih =>
        intro w hw
        cases r with
        | nil => rw [List.mem_singleton.mp hw]; exact Nat.le_refl _
        | cons y r =>
          show w.length ≤ (x ++ " " ++ Str.join " " (y :: r)).length
          rw [Str.length_append, Str.length_append]
          rcases List.mem_cons.mp hw with hw | hw
          · rw [hw]; omega
          · have := ih w hw; omega
    exact this _
  · have : ∀ ws : List Str, ws.length ≤ (Str.join " " ws).length + 1 := fun ws => by
      induction ws with
      | nil => exact Nat.zero_le _
      | cons x r ih =>
        cases r with
        | nil => simp
        | cons y r =>
          show (x :: y :: r).length ≤ (x ++ " " ++ Str.join " " (y :: r)).length + 1
          rw [Str.length_append, Str.length_append, List.length_cons]
          have : (" " : Str).length = 1 := by decide
          omega
    exact this _
/-! ### the longer texts' bounds -/
theorem tree_tokF {f : PyData → Str} {n B : Nat} (ih : ∀ d, isSt n d = true → Tok (f d) (B * cntSt n d)) {d : PyData} (h : treeOf (isSt n) d = true) : Tok (treeTextOf f d) ((B + 2) * cntOf (cntSt n) d + 4) := by
  cases d with
  | tuple ds =>
    have h' : ∀ x ∈ ds, isSt n x = true := List.all_eq_true.mp h
    unfold treeTextOf
    dsimp only
    split
    · exact (Tok.mono (n := 4) ⟨by decide, by decide +kernel⟩ (Nat.le_add_left _ _))
    · refine join_tok (by decide +kernel) (fun y hy => ?_) ?_
      · obtain ⟨c, h1, rfl⟩ := List.mem_map.mp hy
        exact (ih c (h' c h1)).ok
      · rw [List.map_map, List.length_map]
        have h1 := sum_map_le ((fun x : Str => x.length) ∘ f) (fun d => B * cntSt n d) ds fun c hc => (ih c (h' c hc)).len
        have h2 : ∀ l : List PyData, (l.map fun d => B * cntSt n d).sum = B * (l.map (cntSt n)).sum := fun l => by
          induction l with
          | nil => rfl
          | cons x l ih => simp only [List.map_cons, List.sum_cons, ih, Nat.mul_add]
        have h3 : ∀ l : List PyData, l.length ≤ (l.map (cntSt n)).sum := fun l => by
          induction l with
          | nil => exact Nat.le_refl _
          | cons x l ih =>
            simp only [List.map_cons, List.sum_cons, List.length_cons]
            have := cntSt_pos n x
            omega
        rw [h2] at h1
        have h4 := h3 ds
        have e : (Str.ofString "; ").length = 2 := by decide
        rw [e]
        show _ ≤ (B + 2) * (ds.map (cntSt n)).sum + 4
        rw [Nat.add_mul]
        omega
  | _ => cases h
theorem lt_tok : ∀ (n : Nat) (d : PyData), isSt n d = true → Tok (ltText n d) ((64 + 2 * n) * cntSt n d)
  | 0, d, h => by
    show Tok (deedText d) ((64 + 2 * 0) * 1)
    exact (deed_tok h).mono (by decide)
  | n + 1, d, h => by
    rcases st_cases h with z | ⟨t, a, b, rfl, ht, ha, hb⟩ | ⟨t, a, rfl, ht, ha⟩
    · rw [(deed_plain z (n + 1)).1, (deed_st z true (n + 1)).2]
      exact (deed_tok z).mono (by omega)
    · have ta := tree_tokF (lt_tok n) ha
      have tb := tree_tokF (lt_tok n) hb
      have tt := test_tok ht
      have e1 : cntSt (n + 1) (.tuple [.str "if", t, a, b]) = 1 + (cntOf (cntSt n) a + cntOf (cntSt n) b) := by unfold cntSt; exact if_pos rfl
      rw [e1, lt_if]
      refine ((Tok.app (n := 3) ⟨by decide, by decide +kernel⟩ tt).app ((((Tok.app (n := 3) ⟨by decide, by decide +kernel⟩ ta).app (m := 10) ⟨by decide, by decide +kernel⟩).app tb).app (m := 2) ⟨by decide, by decide +kernel⟩)).mono ?_
      have x1 : (64 + 2 * (n + 1)) * (1 + (cntOf (cntSt n) a + cntOf (cntSt n) b)) = (64 + 2 * n + 2) + ((64 + 2 * n + 2) * cntOf (cntSt n) a + (64 + 2 * n + 2) * cntOf (cntSt n) b) := by
        rw [show 64 + 2 * (n + 1) = 64 + 2 * n + 2 by omega, Nat.mul_add, Nat.mul_one, Nat.mul_add]
      rw [x1]
      generalize (64 + 2 * n + 2) * cntOf (cntSt n) a = A
      generalize (64 + 2 * n + 2) * cntOf (cntSt n) b = B
      omega
    · have ta := tree_tokF (lt_tok n) ha
      have tt := test_tok ht
      have e1 : cntSt (n + 1) (.tuple [.str "while", t, a]) = 1 + cntOf (cntSt n) a := by unfold cntSt; exact if_pos rfl
      rw [e1, lt_while]
      refine ((((Tok.app (n := 6) ⟨by decide, by decide +kernel⟩ tt).app (m := 3) ⟨by decide, by decide +kernel⟩).app ta).app (m := 2) ⟨by decide, by decide +kernel⟩).mono ?_
      have x1 : (64 + 2 * (n + 1)) * (1 + cntOf (cntSt n) a) = (64 + 2 * n + 2) + (64 + 2 * n + 2) * cntOf (cntSt n) a := by
        rw [show 64 + 2 * (n + 1) = 64 + 2 * n + 2 by omega, Nat.mul_add, Nat.mul_one]
      rw [x1]
      omega
end K40

set_option Elab.async false
set_option linter.all false
set_option maxRecDepth 100000
set_option maxHeartbeats 2000000
/-! the readers of tests, as plain functions, and that they agree -/
namespace K40
open PySem PySem.Spec PyProof.Rows L2 Rd Dt Dq TL
def compOf (a m b : Str) : Option PyData := if isLetterS a = true ∧ (m = "=" ∨ m = "!=") ∧ isGoal (.str b) = true then some (.tuple [.str m, .str a, .str b]) else none
def comp3 (ts : List Str) : Option PyData := compOf (ts.headD "") (ts.tail.headD "") (ts.tail.tail.headD "")
def jw (k : Str) : Prop := k = "and" ∨ k = "or"
instance (k : Str) : Decidable (jw k) := inferInstanceAs (Decidable (_ ∨ _))
def optAll : List (Option PyData) → Option (List PyData)
  | [] => some []
  | none :: _ => none
  | some d :: r => (optAll r).map (d :: ·)
def pLoop : Nat → Str → List Str → Option (Str × List (Option PyData) × List Str)
  | 0, j, ts => some (j, [], ts)
  | n + 1, j, ts => if jw (ts.headD "") then (if j = "" ∨ j = ts.headD "" then (pLoop n (ts.headD "") ts.tail.tail.tail.tail).map fun x => (x.1, comp3 ts.tail :: x.2.1, x.2.2) else none) else some (j, [], ts)
def pFin (j : Str) (os : List (Option PyData)) (rest : List Str) : Option (PyData × List Str) := match optAll os with
  | some cs => if cs.length ≤ 3 then some (.tuple [.str (if j = "" then "and" else j), .tuple cs], rest) else none
  | none => none
def pGo (j : Str) (fs : List (Option PyData)) (ts : List Str) : Option (PyData × List Str) := match pLoop (ts.length + 1) j ts with
  | some (j', os, rest) => pFin j' (fs ++ os) rest
  | none => none
def pTest (ts : List Str) : Option (PyData × List Str) := pGo "" [comp3 ts] ts.tail.tail.tail
def lLoop : Nat → Str → List PyData → List Str → Option (PyData × List Str)
  | 0, _, _, _ => none
  | n + 1, j, fs, ts => match comp3 ts with
    | none => none
    | some c => if ¬ jw (ts.tail.tail.tail.headD "") ∨ ¬ (j = "" ∨ j = ts.tail.tail.tail.headD "") ∨ n = 0 then some (.tuple [.str (if j = "" then "and" else j), .tuple (fs ++ [c])], ts.tail.tail.tail)
      else lLoop n (ts.tail.tail.tail.headD "") (fs ++ [c]) ts.tail.tail.tail.tail
def lTest (ts : List Str) : Option (PyData × List Str) := lLoop 3 "" [] ts
theorem letter_len {a : Str} (h : isLetterS a = true) : a.length = 1 := by
  unfold isLetterS at h
  split at h
  · rename_i c e
    rw [len_tl, show tl a = [c] from e]; rfl
  · cases h
theorem goal_ne {b : Str} (h : isGoal (.str b) = true) : b ≠ "" := fun z => by
  rw [z] at h
  exact absurd h (by decide +kernel)
theorem compOf_some {a m b : Str} {c : PyData} (h : compOf a m b = some c) : c = .tuple [.str m, .str a, .str b] ∧ isComp c = true ∧ compW c = [a, m, b] ∧ a ≠ "" ∧ m ≠ "" ∧ b ≠ "" := by
  unfold compOf at h
  split at h
  · rename_i hc
    obtain ⟨h1, h2, h3⟩ := hc
    cases h
    refine ⟨rfl, ?_, rfl, fun z => ?_, fun z => ?_, goal_ne h3⟩
    · show ((decide (m = "=") || decide (m = "!=")) && (isLetterS a && isGoal (.str b))) = true
      rw [h1, h3]
      rcases h2 with rfl | rfl <;> decide
    · rw [z] at h1; exact absurd (letter_len h1) (by decide)
    · rcases h2 with rfl | rfl <;> exact absurd z (by decide)
  · cases h
theorem compOf_of {c : PyData} (h : isComp c = true) : ∃ a m b, compW c = [a, m, b] ∧ compOf a m b = some c := by
  obtain ⟨m, a, b, rfl, hm, ha, hb⟩ := comp_cases h
  exact ⟨a, m, b, rfl, by unfold compOf; rw [if_pos ⟨ha, hm, hb⟩]⟩
theorem comp3_some {ts : List Str} {c : PyData} (h : comp3 ts = some c) : isComp c = true ∧ ts = compW c ++ ts.tail.tail.tail := by
  obtain ⟨h1, h2, h3, n1, n2, n3⟩ := compOf_some h
  match ts, h3, n1, n2, n3 with
  | [], _, n1, _, _ => exact absurd rfl n1
  | [a], _, _, n2, _ => exact absurd rfl n2
  | [a, m], _, _, _, n3 => exact absurd rfl n3
  | a :: m :: b :: r, h3, _, _, _ =>
    refine ⟨h2, ?_⟩
    rw [h3]
    rfl
theorem comp3_of {c : PyData} (h : isComp c = true) (r : List Str) : comp3 (compW c ++ r) = some c ∧ (compW c ++ r).tail.tail.tail = r := by
  obtain ⟨a, m, b, e1, e2⟩ := compOf_of h
  rw [e1]
  exact ⟨e2, rfl⟩
theorem optAll_some : ∀ {os : List (Option PyData)} {cs : List PyData}, optAll os = some cs → os = cs.map some
  | [], cs, h => by cases h; rfl
  | none :: _, cs, h => by cases h
  | some d :: r, cs, h => by
    rw [optAll] at h
    obtain ⟨ds, h1, rfl⟩ := Option.map_eq_some_iff.mp h
    rw [optAll_some h1]; rfl
theorem optAll_map : ∀ cs : List PyData, optAll (cs.map some) = some cs
  | [] => rfl
  | c :: cs => by rw [List.map_cons, optAll, optAll_map cs]; rfl
theorem pLoop_some : ∀ (n : Nat) (j : Str) (ts : List Str) (j' : Str) (cs : List PyData) (rest : List Str), pLoop n j ts = some (j', cs.map some, rest) →
    ts = cs.flatMap (fun c => j' :: compW c) ++ rest ∧ (∀ c ∈ cs, isComp c = true) ∧ (cs = [] → j' = j) ∧ (cs ≠ [] → jw j' ∧ (j = "" ∨ j = j'))
  | 0, j, ts, j', cs, rest, h => by
    rw [pLoop] at h
    injection h with h
    injection h with h1 h2
    injection h2 with h2 h3
    have e : cs = [] := List.map_eq_nil_iff.mp h2.symm
    subst e h1 h3
    exact ⟨rfl, (fun _ z => nomatch z), fun _ => rfl, fun z => absurd rfl z⟩
  | n + 1, j, ts, j', cs, rest, h => by
    rw [pLoop] at h
    by_cases hk : jw (ts.headD "")
    · rw [if_pos hk] at h
      by_cases hj : j = "" ∨ j = ts.headD ""
      · rw [if_pos hj] at h
        obtain ⟨⟨j2, os, r2⟩, h1, h2⟩ := Option.map_eq_some_iff.mp h
        injection h2 with h2 h3
        injection h3 with h3 h4
        subst h2 h4
        cases cs with
        | nil => cases h3
        | cons c cs =>
          injection h3 with h5 h6
          dsimp only at h6
          subst h6
          obtain ⟨i1, i2, i3, i4⟩ := pLoop_some n _ _ _ _ _ h1
          obtain ⟨c1, c2⟩ := comp3_some h5
          have ej : j2 = ts.headD "" := by
            by_cases z : cs = []
            · exact i3 z
            · obtain ⟨_, q | q⟩ := i4 z
              · rw [q] at hk
                exact absurd hk (by decide)
              · exact q.symm
          have ets : ts = ts.headD "" :: ts.tail := by
            cases ts with
            | nil => exact absurd hk (by decide)
            | cons x r => rfl
          refine ⟨?_, ?_, fun z => absurd z (by simp), fun _ => ⟨by rw [ej]; exact hk, by rw [ej]; exact hj⟩⟩
          · rw [ets, ej, List.flatMap_cons]
            conv => lhs; rw [c2, i1]
            rw [ej]
            simp only [List.append_assoc, List.cons_append]
          · intro x hx
            rcases List.mem_cons.mp hx with rfl | hx
            · exact c1
            · exact i2 x hx
      · rw [if_neg hj] at h; cases h
    · rw [if_neg hk] at h
      injection h with h
      injection h with h1 h2
      injection h2 with h2 h3
      have e : cs = [] := List.map_eq_nil_iff.mp h2.symm
      subst e h1 h3
      exact ⟨rfl, (fun _ z => nomatch z), fun _ => rfl, fun z => absurd rfl z⟩
theorem pLoop_of {k : Str} (hk : jw k) : ∀ (n : Nat) (cs : List PyData) (j : Str), cs.length < n → (∀ c ∈ cs, isComp c = true) → (j = "" ∨ j = k) → pLoop n j (cs.flatMap fun c => k :: compW c) = some (if cs = [] then j else k, cs.map some, [])
  | 0, cs, j, h, _, _ => absurd h (Nat.not_lt_zero _)
  | n + 1, [], j, _, _, _ => by
    rw [show (([] : List PyData).flatMap fun c => k :: compW c) = [] from rfl, pLoop, if_neg (show ¬ jw (([] : List Str).headD "") by decide)]
    rfl
  | n + 1, c :: cs, j, h, hc, hj => by
    have e : ((c :: cs).flatMap fun c => k :: compW c) = k :: (compW c ++ cs.flatMap fun c => k :: compW c) := by rw [List.flatMap_cons]; rfl
    obtain ⟨c1, c2⟩ := comp3_of (hc c List.mem_cons_self) (cs.flatMap fun c => k :: compW c)
    rw [e, pLoop, List.headD_cons, List.tail_cons, if_pos hk, if_pos hj, c1, c2, pLoop_of hk n cs k (by simpa using h) (fun x hx => hc x (List.mem_cons_of_mem _ hx)) (.inr rfl)]
    simp
theorem is_test_mk {k : Str} {cs : List PyData} (hk : jw k) (h1 : 1 ≤ cs.length) (h3 : cs.length ≤ 3) (ho : cs.length = 1 → k = "and") (hc : ∀ c ∈ cs, isComp c = true) : isTest (.tuple [.str k, .tuple cs]) = true := by
  show ((decide (k = "and") || decide (k = "or")) && (decide (1 ≤ cs.length ∧ cs.length ≤ 3) && (!(decide (cs.length = 1) && decide (k = "or")) && cs.all isComp))) = true
  rw [List.all_eq_true.mpr hc, decide_eq_true (show 1 ≤ cs.length ∧ cs.length ≤ 3 from ⟨h1, h3⟩)]
  rcases hk with rfl | rfl
  · simp only [decide_eq_false (show ¬ ("and" : Str) = "or" by decide)]
    simp
  · rw [decide_eq_false (show ¬ cs.length = 1 from fun z => absurd (ho z) (by decide))]
    simp
theorem joinW_cons (k : Str) (x : List Str) : ∀ l : List (List Str), joinW k (x :: l) = x ++ l.flatMap fun y => k :: y
  | [] => by simp [joinW]
  | y :: r => by
    rw [joinW, joinW_cons k y r, List.flatMap_cons]
    rfl
theorem testW_cons {k : Str} {c : PyData} {cs : List PyData} : testW (.tuple [.str k, .tuple (c :: cs)]) = compW c ++ cs.flatMap fun c => k :: compW c := by
  show joinW k ((c :: cs).map compW) = _
  rw [List.map_cons, joinW_cons, List.flatMap_map]
theorem pTest_iff {ts : List Str} {d : PyData} : pTest ts = some (d, []) ↔ isTest d = true ∧ ts = testW d := by
  constructor
  · intro h
    unfold pTest pGo at h
    split at h
    · rename_i j os rest e
      unfold pFin at h
      split at h
      · rename_i cs ec
        split at h
        · rename_i h3
          injection h with h
          injection h with hd hr
          subst hd hr
          cases c0 : comp3 ts with
          | none => rw [c0] at ec; cases ec
          | some c =>
            rw [c0] at ec
            obtain ⟨cs', e1, rfl⟩ := Option.map_eq_some_iff.mp (show (optAll os).map (c :: ·) = some cs from ec)
            rw [optAll_some e1] at e
            obtain ⟨i1, i2, i3, i4⟩ := pLoop_some _ _ _ _ _ _ e
            obtain ⟨c1, c2⟩ := comp3_some c0
            rw [List.append_nil] at i1
            by_cases z : cs' = []
            · have ej := i3 z
              subst z ej
              refine ⟨is_test_mk (.inl rfl) (by simp) (by simp) (fun _ => rfl) (fun x hx => by rw [List.mem_singleton.mp hx]; exact c1), ?_⟩
              rw [c2, i1, if_pos rfl, testW_cons]
              rfl
            · obtain ⟨q1, q2⟩ := i4 z
              have jn : j ≠ "" := fun e => by rw [e] at q1; exact absurd q1 (by decide)
              rw [if_neg jn]
              refine ⟨is_test_mk q1 (by simp) h3 (fun e => absurd (List.eq_nil_of_length_eq_zero (by simpa using e)) z) (fun x hx => ?_), ?_⟩
              · rcases List.mem_cons.mp hx with rfl | hx
                · exact c1
                · exact i2 x hx
              · rw [testW_cons, ← i1]
                exact c2
        · cases h
      · cases h
    · cases h
  · rintro ⟨ht, rfl⟩
    have ht' := ht
    obtain ⟨k, cs, rfl, hk, hl, hc⟩ := test_cases ht
    cases cs with
    | nil => exact absurd hl.1 (by simp)
    | cons c cs =>
      obtain ⟨c1, c2⟩ := comp3_of (hc c List.mem_cons_self) (cs.flatMap fun c => k :: compW c)
      have hlen : cs.length < (cs.flatMap fun c => k :: compW c).length + 1 := by
        have : ∀ cs : List PyData, cs.length ≤ (cs.flatMap fun c => k :: compW c).length := fun cs => by
          induction cs with
          | nil => exact Nat.zero_le _
          | cons x r ih => rw [List.flatMap_cons, List.length_append, List.length_cons, List.length_cons]; omega
        have := this cs
        omega
      have ep := pLoop_of hk ((cs.flatMap fun c => k :: compW c).length + 1) cs "" hlen (fun x hx => hc x (List.mem_cons_of_mem _ hx)) (.inl rfl)
      rw [testW_cons]
      unfold pTest pGo
      rw [c1, c2, ep]
      show pFin (if cs = [] then "" else k) (some c :: cs.map some) [] = _
      unfold pFin
      rw [show optAll (some c :: cs.map some) = some (c :: cs) from optAll_map (c :: cs)]
      show (if (c :: cs).length ≤ 3 then _ else _) = _
      rw [if_pos hl.2]
      by_cases z : cs = []
      · subst z
        have : k = "and" := by
          rcases hk with e | e
          · exact e
          · rw [e] at ht'
            simp [isTest] at ht'
        rw [this]
        rfl
      · have kn : k ≠ "" := by rcases hk with rfl | rfl <;> decide
        rw [if_neg z, if_neg kn]
/-- what the law's reader takes -/
theorem lLoop_some : ∀ (n : Nat) (j : Str) (fs : List PyData) (ts : List Str) (d : PyData) (rest : List Str), (j = "" ∨ jw j) → lLoop n j fs ts = some (d, rest) →
    ∃ (k : Str) (c : PyData) (cs : List PyData), d = .tuple [.str (if k = "" then "and" else k), .tuple (fs ++ c :: cs)] ∧ cs.length < n ∧ (∀ x ∈ c :: cs, isComp x = true) ∧ ts = compW c ++ cs.flatMap (fun c => k :: compW c) ++ rest ∧ (cs = [] → k = j) ∧ (cs ≠ [] → jw k ∧ (j = "" ∨ j = k))
  | 0, _, _, _, _, _, _, h => by cases h
  | n + 1, j, fs, ts, d, rest, hj, h => by
    rw [lLoop] at h
    split at h
    · cases h
    · rename_i c ec
      obtain ⟨c1, c2⟩ := comp3_some ec
      split at h
      · injection h with h
        injection h with h1 h2
        subst h1 h2
        refine ⟨j, c, [], rfl, Nat.succ_pos _, fun x hx => by rw [List.mem_singleton.mp hx]; exact c1, ?_, fun _ => rfl, fun z => absurd rfl z⟩
        rw [List.flatMap_nil, List.append_nil]
        exact c2
      · rename_i hn
        have h1 : jw (ts.tail.tail.tail.headD "") := Decidable.byContradiction fun z => hn (.inl z)
        have h2 : j = "" ∨ j = ts.tail.tail.tail.headD "" := Decidable.byContradiction fun z => hn (.inr (.inl z))
        obtain ⟨k, c', cs, e1, e2, e3, e4, e5, e6⟩ := lLoop_some n _ _ _ _ _ (.inr h1) h
        have ek : k = ts.tail.tail.tail.headD "" := by
          by_cases z : cs = []
          · exact e5 z
          · obtain ⟨_, q | q⟩ := e6 z
            · rw [q] at h1; exact absurd h1 (by decide)
            · exact q.symm
        have ets : ts.tail.tail.tail = ts.tail.tail.tail.headD "" :: ts.tail.tail.tail.tail := by
          cases z : ts.tail.tail.tail with
          | nil => rw [z] at h1; exact absurd h1 (by decide)
          | cons x r => rfl
        refine ⟨k, c, c' :: cs, ?_, by simpa using e2, fun x hx => ?_, ?_, fun z => absurd z (by simp), fun _ => ⟨by rw [ek]; exact h1, by rw [ek]; exact h2⟩⟩
        · rw [e1]
          simp only [List.append_assoc, List.cons_append, List.nil_append]
        · rcases List.mem_cons.mp hx with rfl | hx
          · exact c1
          · exact e3 x hx
        · rw [List.flatMap_cons]
          conv => lhs; rw [c2, ets, e4]
          rw [← ek]
          simp only [List.append_assoc, List.cons_append]
theorem lLoop_of {k : Str} (hk : jw k) : ∀ (n : Nat) (c : PyData) (cs fs : List PyData) (j : Str), cs.length < n → (∀ x ∈ c :: cs, isComp x = true) → (j = "" ∨ j = k) →
    lLoop n j fs (compW c ++ cs.flatMap fun c => k :: compW c) = some (.tuple [.str (if cs = [] then (if j = "" then "and" else j) else k), .tuple (fs ++ c :: cs)], [])
  | 0, _, cs, _, _, h, _, _ => absurd h (Nat.not_lt_zero _)
  | n + 1, c, [], fs, j, h, hc, hj => by
    obtain ⟨c1, c2⟩ := comp3_of (hc c List.mem_cons_self) (([] : List PyData).flatMap fun c => k :: compW c)
    rw [lLoop, c1, c2]
    show (if ¬ jw ("" : Str) ∨ _ then _ else _) = _
    refine (if_pos (.inl (by decide))).trans ?_
    rfl
  | n + 1, c, c' :: cs, fs, j, h, hc, hj => by
    obtain ⟨c1, c2⟩ := comp3_of (hc c List.mem_cons_self) ((c' :: cs).flatMap fun c => k :: compW c)
    have hn : n ≠ 0 := fun z => by rw [z] at h; simp at h
    have kn : k ≠ "" := by rcases hk with rfl | rfl <;> decide
    rw [lLoop, c1, c2, List.flatMap_cons, List.cons_append]
    show (if ¬ jw k ∨ ¬ (j = "" ∨ j = k) ∨ n = 0 then _ else lLoop n k (fs ++ [c]) (compW c' ++ cs.flatMap fun c => k :: compW c)) = _
    rw [if_neg (fun z => by rcases z with z | z | z; exact z hk; exact z hj; exact hn z), lLoop_of hk n c' cs (fs ++ [c]) k (by simpa using h) (fun x hx => hc x (List.mem_cons_of_mem _ hx)) (.inr rfl)]
    rw [if_neg kn]
    simp only [List.append_assoc, List.cons_append, List.nil_append, reduceCtorEq, if_false, ite_self]
theorem lTest_iff {ts : List Str} {d : PyData} : lTest ts = some (d, []) ↔ isTest d = true ∧ ts = testW d := by
  constructor
  · intro h
    obtain ⟨k, c, cs, rfl, h1, h2, h3, h4, h5⟩ := lLoop_some _ _ _ _ _ _ (.inl rfl) h
    rw [List.append_nil] at h3
    by_cases z : cs = []
    · have := h4 z
      subst this z
      exact ⟨is_test_mk (.inl rfl) (by simp) (by simp) (fun _ => rfl) h2, by rw [h3, if_pos rfl, List.nil_append, testW_cons]; rfl⟩
    · obtain ⟨q1, _⟩ := h5 z
      have kn : k ≠ "" := by rcases q1 with rfl | rfl <;> decide
      rw [if_neg kn]
      refine ⟨is_test_mk q1 (by simp) (by simp only [List.nil_append, List.length_cons]; omega) (fun e => absurd (List.eq_nil_of_length_eq_zero (by simpa using e)) z) h2, ?_⟩
      rw [h3]
      exact testW_cons.symm
  · rintro ⟨ht, rfl⟩
    have ht' := ht
    obtain ⟨k, cs, rfl, hk, hl, hc⟩ := test_cases ht
    cases cs with
    | nil => exact absurd hl.1 (by simp)
    | cons c cs =>
      rw [testW_cons]
      unfold lTest
      rw [lLoop_of hk 3 c cs [] "" (by have := hl.2; simp only [List.length_cons] at this; omega) hc (.inl rfl)]
      by_cases z : cs = []
      · subst z
        have : k = "and" := by
          rcases hk with e | e
          · exact e
          · rw [e] at ht'
            simp [isTest] at ht'
        rw [this]
        rfl
      · rw [if_neg z]
        rfl
/-! ### texts -/
def pSplit (s : Str) : Option (List Str) := if ∀ w ∈ Txt.split s " ", w ≠ "" ∧ w ≠ ";" then some ((Txt.split s " ").flatMap sp1) else none
def pOf (s : Str) : Option PyData := match pSplit s with
  | none => none
  | some ts => match pTest ts with
    | some (d, []) => some d
    | _ => none
def lOf (s : Str) : Option PyData := match lTest (Txt.split s " ") with
  | some (d, []) => some d
  | _ => none
theorem comp_plain {c : PyData} (h : isComp c = true) : ∀ w ∈ compW c, plain w = true := by
  obtain ⟨m, a, b, rfl, hm, ha, hb⟩ := comp_cases h
  intro w hw
  have hw' : w ∈ [a, m, b] := hw
  simp only [List.mem_cons, List.not_mem_nil, or_false] at hw'
  rcases hw' with rfl | rfl | rfl
  · exact plain_letter ha
  · rcases hm with rfl | rfl <;> decide +kernel
  · exact plain_goal hb
theorem test_plain {d : PyData} (h : isTest d = true) : ∀ w ∈ testW d, plain w = true := by
  obtain ⟨k, cs, rfl, hk, hl, hc⟩ := test_cases h
  cases cs with
  | nil => exact absurd hl.1 (by simp)
  | cons c cs =>
    rw [testW_cons]
    intro w hw
    rcases List.mem_append.mp hw with hw | hw
    · exact comp_plain (hc c List.mem_cons_self) w hw
    · obtain ⟨c', h1, h2⟩ := List.mem_flatMap.mp hw
      rcases List.mem_cons.mp h2 with rfl | h2
      · rcases hk with rfl | rfl <;> decide +kernel
      · exact comp_plain (hc c' (List.mem_cons_of_mem _ h1)) w h2
theorem sp1_flat {ws ts : List Str} (hp : ∀ w ∈ ts, plain w = true) (h : ws.flatMap sp1 = ts) : ws = ts := by
  induction ws generalizing ts with
  | nil => exact h
  | cons w ws ih =>
    rw [List.flatMap_cons] at h
    have hs : sp1 w = [w] ∨ (";" : Str) ∈ sp1 w := by
      unfold sp1
      split
      · right; simp
      · left; rfl
    rcases hs with e | e
    · rw [e] at h
      cases ts with
      | nil => cases h
      | cons t ts =>
        injection h with h1 h2
        rw [h1, ih (fun w hw => hp w (List.mem_cons_of_mem _ hw)) h2]
    · have : plain (";" : Str) = true := hp _ (by rw [← h]; exact List.mem_append_left _ e)
      exact absurd this (by decide +kernel)
theorem flat_plain {ws : List Str} (hp : ∀ w ∈ ws, plain w = true) : ws.flatMap sp1 = ws := by
  induction ws with
  | nil => rfl
  | cons w ws ih => rw [List.flatMap_cons, sp1_plain (hp w List.mem_cons_self), ih fun x hx => hp x (List.mem_cons_of_mem _ hx)]; rfl
theorem pOf_iff {s : Str} {d : PyData} : pOf s = some d ↔ isTest d = true ∧ Txt.split s " " = testW d := by
  have key : pOf s = some d ↔ ∃ ts, pSplit s = some ts ∧ pTest ts = some (d, []) := by
    unfold pOf
    constructor
    · intro h
      split at h
      · cases h
      · rename_i ts e
        split at h
        · rename_i d' e'
          cases h
          exact ⟨ts, e, e'⟩
        · cases h
    · rintro ⟨ts, e, e'⟩
      rw [e]
      dsimp only
      rw [e']
  rw [key]
  constructor
  · rintro ⟨ts, e, e'⟩
    obtain ⟨ht, rfl⟩ := pTest_iff.mp e'
    unfold pSplit at e
    split at e
    · injection e with e
      exact ⟨ht, sp1_flat (test_plain ht) e⟩
    · cases e
  · rintro ⟨ht, e⟩
    refine ⟨testW d, ?_, pTest_iff.mpr ⟨ht, rfl⟩⟩
    unfold pSplit
    rw [e, if_pos, flat_plain (test_plain ht)]
    intro w hw
    have p := test_plain ht w hw
    exact ⟨fun z => by rw [z] at p; exact absurd p (by decide +kernel), fun z => by rw [z] at p; exact absurd p (by decide +kernel)⟩
theorem lOf_iff {s : Str} {d : PyData} : lOf s = some d ↔ isTest d = true ∧ Txt.split s " " = testW d := by
  rw [← lTest_iff]
  unfold lOf
  constructor
  · intro h
    split at h
    · rename_i d' e
      cases h
      exact e
    · cases h
  · intro h
    rw [h]
/-- both readers agree -/
theorem pOf_lOf (s : Str) : pOf s = lOf s := by
  refine Option.ext fun d => ?_
  rw [pOf_iff, lOf_iff]
theorem pOf_text {d : PyData} (h : isTest d = true) : pOf (testText d) = some d := by
  rw [pOf_iff]
  refine ⟨h, sp1_flat (test_plain h) (test_Tk h).split.2.1⟩
end K40

set_option Elab.async false
set_option linter.all false
set_option maxRecDepth 100000
set_option maxHeartbeats 4000000
namespace K40
open PySem PySem.Spec PyProof.Rows L2 Rd Dt Dq Pk TL
section
variable {σ : L2.St} {H : Hp} {Q : VK} {D : Ends} {ta tv : TE} {K : PySem.W.Frag} {f : Str}
def FA (K : PySem.W.Frag) (H : Hp) (a : Addr) (f : Str) (v : V) : Prop := ∃ C dx fs, H a = some (.ins C dx fs) ∧ Cls K C ∧ NoAttr K C f ∧ fs.lookup f = some v
def SA (K : PySem.W.Frag) (H : Hp) (a : Addr) (f : Str) (C dx : Addr) (fs : List (Str × V)) : Prop := H a = some (.ins C dx fs) ∧ Cls K C ∧ NoAttr K C f ∧ fs.length < 1000
theorem tFld_ : tFld K ta f σ H Q = ta σ H fun x H1 => ∃ a v, x = .ref a ∧ FA K H1 a f v ∧ Q v H1 := by
  unfold tFld
  congr 1
  funext x H1
  refine propext ⟨?_, ?_⟩
  · rintro ⟨a, C, dx, fs, v, e, h1, h2, h3, h4, q⟩
    exact ⟨a, v, e, ⟨C, dx, fs, h1, h2, h3, h4⟩, q⟩
  · rintro ⟨a, v, e, ⟨C, dx, fs, h1, h2, h3, h4⟩, q⟩
    exact ⟨a, C, dx, fs, v, e, h1, h2, h3, h4, q⟩
theorem sFld_ : sFld K ta tv f D σ H = tv σ H fun y H1 => ta σ H1 fun x H2 => ∃ a C dx fs, x = .ref a ∧ SA K H2 a f C dx fs ∧ D.nx σ (upd H2 a (.ins C dx (putF f y fs))) := by
  unfold sFld
  congr 1
  funext y H1
  congr 1
  funext x H2
  refine propext ⟨?_, ?_⟩
  · rintro ⟨a, C, dx, fs, e, h1, h2, h3, h4, q⟩
    exact ⟨a, C, dx, fs, e, ⟨h1, h2, h3, h4⟩, q⟩
  · rintro ⟨a, C, dx, fs, e, ⟨h1, h2, h3, h4⟩, q⟩
    exact ⟨a, C, dx, fs, e, h1, h2, h3, h4, q⟩
end
local macro_rules | `(tactic| walk_at "rd") => `(tactic| try simp only [↓tFld_, ↓sFld_, ↓tVar_, ↓tC_, ↓tM1, ↓tDNewK_, ↓tOp_, ↓tUn_, ↓rI_, ↓rI0_, ↓rU_, ↓eq_ii, ↓ne_ii, ↓eq_ss, ↓ne_ss, ↓eq_bb, ↓ne_bb, ↓tAndV_, ↓tOrV_, ↓tNotV_, ↓tIf_, ↓tTest_, ↓tB_, ↓tAnd_, ↓tOr_, ↓tNot_, ↓tChain_, ↓tNil_, ↓tCons_, ↓tTup_, ↓tLst_, ↓tCB_, ↓tCall_, ↓tSeq_, ↓tNext_, ↓tRet_, ↓tRetN_, ↓tDrop_, ↓tBreak_, ↓tNever_, ↓tIfS_, ↓tAsg_, ↓gName_, ↓gTup_, ↓gCons_, ↓gNil_, ↓gSub_, ↓tPar_, ↓tPar3_, ↓tSl_, ↓tNoPart_, ↓tPart_, ↓tBM_, ↓tFor_range1, ↓tFor_range2, ↓tFor_list, ↓tFor_tup, L2.start, List.headD_cons, List.headD_nil, List.tail_cons, List.map_cons, List.map_nil, List.length_cons, List.length_nil, List.replicate, List.append_nil, List.nil_append, List.cons_append, List.getElem?_cons_zero, List.getElem?_cons_succ, List.set_cons_zero, List.set_cons_succ, Option.some.injEq, V.int.injEq, V.bl.injEq, V.str.injEq, V.ref.injEq, exists_eq_left, exists_eq_left', exists_eq_right, exists_eq, exists_and_left, and_true, true_and, decide_eq_true_eq, Nat.reduceAdd, Nat.reduceSub, Nat.add_zero, Nat.zero_add, List.cons.injEq, Bool.not_eq_true', decide_eq_false_iff_not, eq_self, reduceCtorEq, Bool.false_eq_true, if_true, if_false, ite_true, ite_false, and_self, ↓tLc_range1, ↓tLc_range2, ↓tLc_list, ↓tLc_tup, ↓tYes_, wipe0, wipe1, ↓tCallS_, ↓rIxL_, ↓rIxT_, ↓rSlL_, ↓rCat_, ↓rSetL_, ↓rRep_, ↓rGcd_, ↓tCallK_, ↓gUnl_, ↓tRaise_, decide_true, decide_false, not_true_eq_false, not_false_eq_true, false_and, or_false, false_or, and_false, and_assoc, exists_const, forall_const, forall_eq'])
section
variable {P : Program} {w : World} {K : PySem.W.Frag} {mg : Str → Option Value} {base : Heap}
/-! ### Words -/
theorem wa_ : ¬ (("words" : Str) = "at") := by decide +kernel
def wf (l : Addr) (i : Int) : List (Str × V) := putF "at" (.int i) (putF "words" (.ref l) [])
theorem wf_eq (l : Addr) (i : Int) : wf l i = ([("words", V.ref l), ("at", V.int i)] : List (Str × V)) := by
  show (if ("words" : Str) = "at" then [(("words" : Str), V.int i)] else (("words" : Str), V.ref l) :: putF "at" (V.int i) []) = _
  rw [if_neg wa_]
  all_goals rfl
theorem wf_words (l : Addr) (i : Int) : (wf l i).lookup ("words" : Str) = some (.ref l) := by
  unfold wf
  rw [lookup_putF, if_neg wa_, lookup_putF, if_pos rfl]
theorem wf_at (l : Addr) (i : Int) : (wf l i).lookup ("at" : Str) = some (.int i) := by
  unfold wf
  rw [lookup_putF, if_pos rfl]
theorem wf_no (l : Addr) (i : Int) {m : Str} (h1 : ¬ m = "at") (h2 : ¬ m = "words") : (wf l i).lookup m = none := by
  unfold wf
  rw [lookup_putF, if_neg h1, lookup_putF, if_neg h2]
  all_goals rfl
theorem wf_put (l : Addr) (i j : Int) : putF "at" (.int j) (wf l i) = wf l j := by
  rw [wf_eq, wf_eq]
  show (if ("words" : Str) = "at" then _ else (("words" : Str), V.ref l) :: (if ("at" : Str) = "at" then [(("at" : Str), V.int j)] else _)) = _
  rw [if_neg wa_, if_pos rfl]
/-- an instance of Words whose words left are these -/
def WdR (C : Addr) (H : Hp) (r l : Addr) (rest : List Str) : Prop := ∃ (ts : List Str) (i : Nat) (dx : Addr), H r = some (.ins C dx (wf l i)) ∧ H l = some (.lst (ts.map V.str)) ∧ ts.drop i = rest
theorem WdR.ne {C : Addr} {H : Hp} {r l p : Addr} {rest : List Str} (h : WdR C H r l rest) (n : H p = none) : p ≠ r := fun z => by
  obtain ⟨ts, i, dx, e, _⟩ := h
  rw [z, e] at n
  cases n
theorem WdR.up {C : Addr} {H H' : Hp} {r l : Addr} {rest : List Str} (h : WdR C H r l rest) (s : Same H H') : WdR C H' r l rest := by
  obtain ⟨ts, i, dx, e, e2, e3⟩ := h
  exact ⟨ts, i, dx, s _ _ e, s _ _ e2, e3⟩
theorem WdR.nel {C : Addr} {H : Hp} {r l p : Addr} {rest : List Str} (h : WdR C H r l rest) (n : H p = none) : p ≠ l := fun z => by
  obtain ⟨ts, i, dx, _, e, _⟩ := h
  rw [z, e] at n
  cases n
theorem WdR.put {C : Addr} {H : Hp} {r l p : Addr} {o : HO} {rest : List Str} (h : WdR C H r l rest) (h1 : p ≠ r) (h2 : p ≠ l) : WdR C (upd H p o) r l rest := by
  obtain ⟨ts, i, dx, e, e2, e3⟩ := h
  exact ⟨ts, i, dx, (upd_ne (Ne.symm h1)).trans e, (upd_ne (Ne.symm h2)).trans e2, e3⟩
def spInitW (C : Addr) : Sp := fun vs H Q _ => ∃ (p l dx : Addr), vs = [.ref p, .ref l] ∧ H p = some (.ins C dx []) ∧ ∀ H', But p H H' → H' p = some (.ins C dx (wf l 0)) → Q .non H'
def spPeek (C : Addr) : Sp := fun vs H Q _ => ∃ (r l : Addr) (rest : List Str), vs = [.ref r] ∧ WdR C H r l rest ∧ Q (.str (rest.headD "")) H
def spTakeW (C : Addr) : Sp := fun vs H Q _ => ∃ (r l : Addr) (rest : List Str), vs = [.ref r] ∧ WdR C H r l rest ∧ ∀ H', But r H H' → WdR C H' r l rest.tail → Q (.str (rest.headD "")) H'
def spOver (C : Addr) : Sp := fun vs H Q _ => ∃ (r l : Addr) (rest : List Str), vs = [.ref r] ∧ WdR C H r l rest ∧ Q (.bl rest.isEmpty) H
structure WdT (P : Program) (w : World) (K : PySem.W.Frag) (mg : Str → Option Value) (base : Heap) (C fI fP fT fO : Addr) (fdI fdP fdT fdO : FuncData) : Prop where
  cl : Cls K C
  nW : NoAttr K C "words"
  nA : NoAttr K C "at"
  mgC : mg "Words" = some (.ref C)
  mak : Mk K C fI
  m_peek : Meth K C "peek" fP
  m_take : Meth K C "take" fT
  m_is_over : Meth K C "is_over" fO
  b_init : Binds K fdI ["self", "words"] []
  b_peek : Binds K fdP ["self"] []
  b_take : Binds K fdT ["self"] []
  b_is_over : Binds K fdO ["self"] []
  F_init : FnOk P w K mg base CX0 1 fI fdI ["self", "words"] (spInitW C)
  F_peek : FnOk P w K mg base CX0 1 fP fdP ["self"] (spPeek C)
  F_take : FnOk P w K mg base CX0 2 fT fdT ["self"] (spTakeW C)
  F_is_over : FnOk P w K mg base CX0 1 fO fdO ["self"] (spOver C)
/-- what the methods lean on -/
structure WdB (K : PySem.W.Frag) (C : Addr) : Prop where
  cl : Cls K C
  nW : NoAttr K C "words"
  nA : NoAttr K C "at"
abbrev FM (K : PySem.W.Frag) (x q : Str) (st : Stmt) (f : Addr) (fd : FuncData) : Prop := FunD K x q (defArgs st) (defBody st) (defScope st) [] [] f fd
theorem sc_init : FnScope ["self", "words"] ["self", "words"] (defScope (inClass (top 31) 0)) := ⟨rfl, rfl, rfl, by decide +kernel, rfl, by decide +kernel, by decide +kernel⟩
theorem ok_init {f C : Addr} {fd : FuncData} {q : Str} (W : WdB K C) (F : FM K "__init__" q (inClass (top 31) 0) f fd) : FnOk P w K mg base CX0 1 f fd ["self", "words"] (spInitW C) := by
  refine F.ok sc_init (fun vs H Q E h => ?_) (fun cdv A outer s H vs Q E hr h => ?_)
  · obtain ⟨_, _, _, rfl, _⟩ := h
    rfl
  · obtain ⟨p, l, dx, rfl, hp, k⟩ := h
    refine ⟨_, (pss_cons (ps_fld (pv 0) (pv 1) rfl)
        (pss_one (ps_fld (pv 0) pe_int rfl))), ?_⟩
    refine sq fun U hU => ?_
    walk_at "rd"
    refine ⟨_, _, _, ⟨hp, W.cl, W.nW, (by decide : 0 < 1000)⟩, hU _ _ ?_⟩
    walk_at "rd"
    refine ⟨_, _, _, ⟨upd_same, W.cl, W.nA, (by show 1 < 1000; decide)⟩, ?_⟩
    refine k _ (fun b o n e => ?_) upd_same
    rw [upd_ne n, upd_ne n]
    exact e
theorem sc_peek : FnScope ["self"] ["self"] (defScope (inClass (top 31) 1)) := ⟨rfl, rfl, rfl, by decide +kernel, rfl, by decide +kernel, by decide +kernel⟩
theorem head_at {ts rest : List Str} {i : Nat} (h : ts.drop i = rest) : rest.headD "" = (ts[i]?).getD "" := by
  rw [← h, List.headD_eq_head?_getD, List.head?_drop]
theorem ok_peek {f C : Addr} {fd : FuncData} {q : Str} (T : Tx mg) (W : WdB K C) (F : FM K "peek" q (inClass (top 31) 1) f fd) : FnOk P w K mg base CX0 1 f fd ["self"] (spPeek C) := by
  refine F.ok sc_peek (fun vs H Q E h => ?_) (fun cdv A outer s H vs Q E hr h => ?_)
  · obtain ⟨_, _, _, rfl, _⟩ := h
    rfl
  · obtain ⟨r, l, rest, rfl, ⟨ts, i, dx, e1, e2, e3⟩, k⟩ := h
    rw [head_at e3] at k
    refine ⟨_, (pss_one (ps_ret (pe_ifExp (pt_cmpR op_lt (pe_fld (pv 0) rfl) (pe_callB call_len_seq (by rfl) T.b_len PySem.boot_len (pa_cons (pe_fld (pv 0) rfl) pa_nil)) (nomark _)) (pe_ix (r := rIxL K) ix_list (pe_fld (pv 0) rfl) (pe_fld (pv 0) rfl) (fun _ _ => rfl)) pe_str))), ?_⟩
    walk_at "rd"
    have fa : FA K H r "at" (.int i) := ⟨_, _, _, e1, W.cl, W.nA, wf_at _ _⟩
    have fw : FA K H r "words" (.ref l) := ⟨_, _, _, e1, W.cl, W.nW, wf_words _ _⟩
    refine ⟨_, fa, _, fw, _, rfl, _, .inl (SqL.of e2), _, rfl, ?_⟩
    rw [List.length_map]
    by_cases c : i < ts.length
    · rw [if_pos (by omega)]
      have ei : ts[i]? = some (ts[i]'c) := List.getElem?_eq_getElem c
      rw [ei] at k
      exact ⟨_, fw, _, fa, _, rfl, _, _, rfl, SqL.of e2, _, atI_nn (by omega) (by rw [List.getElem?_map]; show Option.map V.str (ts[i]?) = _; rw [ei]; rfl), k⟩
    · rw [if_neg (by omega)]
      have ei : ts[i]? = none := List.getElem?_eq_none (by omega)
      rw [ei] at k
      exact k
theorem sc_over : FnScope ["self"] ["self"] (defScope (inClass (top 31) 3)) := ⟨rfl, rfl, rfl, by decide +kernel, rfl, by decide +kernel, by decide +kernel⟩
theorem ok_over {f C : Addr} {fd : FuncData} {q : Str} (T : Tx mg) (W : WdB K C) (F : FM K "is_over" q (inClass (top 31) 3) f fd) : FnOk P w K mg base CX0 1 f fd ["self"] (spOver C) := by
  refine F.ok sc_over (fun vs H Q E h => ?_) (fun cdv A outer s H vs Q E hr h => ?_)
  · obtain ⟨_, _, _, rfl, _⟩ := h
    rfl
  · obtain ⟨r, l, rest, rfl, ⟨ts, i, dx, e1, e2, e3⟩, k⟩ := h
    refine ⟨_, (pss_one (ps_ret (pe_cmpR op_ge (pe_fld (pv 0) rfl) (pe_callB call_len_seq (by rfl) T.b_len PySem.boot_len (pa_cons (pe_fld (pv 0) rfl) pa_nil)) (nomark _)))), ?_⟩
    walk_at "rd"
    have fa : FA K H r "at" (.int i) := ⟨_, _, _, e1, W.cl, W.nA, wf_at _ _⟩
    have fw : FA K H r "words" (.ref l) := ⟨_, _, _, e1, W.cl, W.nW, wf_words _ _⟩
    refine ⟨_, fa, _, fw, _, rfl, _, .inl (SqL.of e2), _, rfl, ?_⟩
    rw [List.length_map]
    have e : decide ((i : Int) ≥ (ts.length : Int)) = rest.isEmpty := by
      rw [← e3]
      by_cases c : ts.length ≤ i
      · rw [List.drop_eq_nil_of_le c, decide_eq_true (by omega)]; rfl
      · rw [decide_eq_false (by omega)]
        cases z : ts.drop i with
        | nil => exact absurd (List.drop_eq_nil_iff.mp z) c
        | cons _ _ => rfl
    rw [e]
    exact k
theorem sc_takeW : FnScope ["self", "word"] ["self"] (defScope (inClass (top 31) 2)) := ⟨rfl, rfl, rfl, by decide +kernel, rfl, by decide +kernel, by decide +kernel⟩
theorem tail_at {ts rest : List Str} {i : Nat} (h : ts.drop i = rest) : ts.drop (i + 1) = rest.tail := by rw [← h, List.tail_drop]
/-- peek, take as their callers see them -/
theorem peekR {C : Addr} {H : Hp} {r l : Addr} {rest : List Str} {σ : L2.St} {i : Nat} {Q : VK} {E : XK} (hσ : σ[i]? = some (some (.ref r))) (h : WdR C H r l rest) (q : Q (.str (rest.headD "")) H) : tMeth C "peek" (spPeek C) [] E (tVar i) tNil σ H Q := by
  obtain ⟨ts, j, dx, e1, e2, e3⟩ := id h
  exact ⟨_, hσ, r, dx, _, rfl, e1, wf_no _ _ (by decide +kernel) (by decide +kernel), r, l, rest, rfl, h, q⟩
theorem takeR {C : Addr} {H : Hp} {r l : Addr} {rest : List Str} {σ : L2.St} {i : Nat} {Q : VK} {E : XK} (hσ : σ[i]? = some (some (.ref r))) (h : WdR C H r l rest) (q : ∀ H', But r H H' → WdR C H' r l rest.tail → Q (.str (rest.headD "")) H') : tMeth C "take" (spTakeW C) [] E (tVar i) tNil σ H Q := by
  obtain ⟨ts, j, dx, e1, e2, e3⟩ := id h
  exact ⟨_, hσ, r, dx, _, rfl, e1, wf_no _ _ (by decide +kernel) (by decide +kernel), r, l, rest, rfl, h, q⟩
theorem overR {C : Addr} {H : Hp} {r l : Addr} {rest : List Str} {σ : L2.St} {i : Nat} {Q : VK} {E : XK} (hσ : σ[i]? = some (some (.ref r))) (h : WdR C H r l rest) (q : Q (.bl rest.isEmpty) H) : tMeth C "is_over" (spOver C) [] E (tVar i) tNil σ H Q := by
  obtain ⟨ts, j, dx, e1, e2, e3⟩ := id h
  exact ⟨_, hσ, r, dx, _, rfl, e1, wf_no _ _ (by decide +kernel) (by decide +kernel), r, l, rest, rfl, h, q⟩
structure WdP (P : Program) (w : World) (K : PySem.W.Frag) (mg : Str → Option Value) (base : Heap) (C fP : Addr) (fdP : FuncData) : Prop where
  cl : Cls K C
  m_peek : Meth K C "peek" fP
  b_peek : Binds K fdP ["self"] []
  F_peek : FnOk P w K mg base CX0 1 fP fdP ["self"] (spPeek C)
theorem ok_takeW {f C fP : Addr} {fd fdP : FuncData} {q : Str} (T : Tx mg) (B : WdB K C) (W : WdP P w K mg base C fP fdP) (F : FM K "take" q (inClass (top 31) 2) f fd) : FnOk P w K mg base CX0 2 f fd ["self"] (spTakeW C) := by
  refine F.ok sc_takeW (fun vs H Q E h => ?_) (fun cdv A outer s H vs Q E hr h => ?_)
  · obtain ⟨_, _, _, rfl, _⟩ := h
    rfl
  · obtain ⟨r, l, rest, rfl, hw, k⟩ := h
    have nd := sc_takeW.nd
    refine ⟨_, (pss_cons (ps_set (i := 1) nd rfl (Or.inl rfl) (pe_meth0 (pv 0) W.cl W.m_peek W.F_peek (hr.mono (by omega)) W.b_peek .nil pass0))
        (pss_cons (ps_fld (pv 0) (pe_op op_add (pe_fld (pv 0) rfl) pe_int) rfl)
        (pss_one (ps_ret (pv 1))))), ?_⟩
    refine sq fun U hU => ?_
    walk_at "rd"
    refine peekR rfl hw (hU _ _ ?_)
    clear hU
    obtain ⟨ts, i, dx, e1, e2, e3⟩ := hw
    refine sq fun U hU => ?_
    walk_at "rd"
    have fa : FA K H r "at" (.int i) := ⟨_, _, _, e1, B.cl, B.nA, wf_at _ _⟩
    refine ⟨_, fa, _, rfl, _, _, _, ⟨e1, B.cl, B.nA, (by rw [wf_eq]; show 2 < 1000; decide)⟩, hU _ _ ?_⟩
    clear hU
    walk_at "rd"
    have lr : l ≠ r := fun z => by rw [z, e1] at e2; cases e2
    refine k _ (fun b o n e => (upd_ne n).trans e) ⟨ts, i + 1, dx, ?_, (upd_ne lr).trans e2, tail_at e3⟩
    rw [wf_put]
    exact upd_same
/-! ### a text's words -/
def spSplit : Sp := fun vs H Q _ => ∃ (s : Str), vs = [.str s] ∧ s.length ≤ 10000 ∧ (∀ ts, pSplit s = some ts → ∀ p H', Same H H' → H' p = some (.lst (ts.map V.str)) → ts.length ≤ 30000 → Q (.ref p) H') ∧ (pSplit s = none → ∀ H', Same H H' → Q .non H')
def splP (H : Hp) (s : Str) (p q : Addr) (ws : List Str) (i : Nat) : L2.St → Hp → Prop := fun σ H' => Same H H' ∧ (∀ w ∈ ws.take i, w ≠ "" ∧ w ≠ ";") ∧ H' q = some (.lst (ws.map V.str)) ∧ H' p = some (.lst (((ws.take i).flatMap sp1).map V.str)) ∧ ∃ x : Option V, σ = [some (.str s), some (.ref p), x]
theorem sc_split : FnScope ["text", "found", "word"] ["text"] (defScope (top 32)) := ⟨rfl, rfl, rfl, by decide +kernel, rfl, by decide +kernel, by decide +kernel⟩
theorem sp1_len (w : Str) : (sp1 w).length ≤ 2 := by
  unfold sp1
  split <;> simp
theorem flat_len : ∀ ws : List Str, (ws.flatMap sp1).length ≤ 2 * ws.length
  | [] => by simp
  | w :: ws => by
    rw [List.flatMap_cons, List.length_append, List.length_cons]
    have := sp1_len w
    have := flat_len ws
    omega
/-- the parts of a text are short -/
theorem spl_bnd : ∀ (l acc : List Nat), (spl [32] 0 acc l).length ≤ l.length + 1 ∧ ∀ p ∈ spl [32] 0 acc l, p.length ≤ acc.length + l.length ∧ ∀ c ∈ p, c ∈ acc ∨ c ∈ l
  | [], acc => by
    rw [spl_nil]
    refine ⟨by simp, fun p hp => ?_⟩
    rw [List.mem_singleton.mp hp]
    exact ⟨by simp, fun c hc => .inl hc⟩
  | x :: r, acc => by
    cases h : pre [32] (x :: r) with
    | true =>
      rw [spl_hit h]
      obtain ⟨i1, i2⟩ := spl_bnd r []
      show (acc :: spl [32] 0 [] r).length ≤ _ ∧ _
      refine ⟨by rw [List.length_cons, List.length_cons]; omega, fun p hp => ?_⟩
      rcases List.mem_cons.mp hp with rfl | hp
      · exact ⟨by omega, fun c hc => .inl hc⟩
      · obtain ⟨j1, j2⟩ := i2 p hp
        refine ⟨by rw [List.length_nil] at j1; rw [List.length_cons]; omega, fun c hc => ?_⟩
        rcases j2 c hc with z | z
        · cases z
        · exact .inr (List.mem_cons_of_mem _ z)
    | false =>
      rw [spl_miss h]
      obtain ⟨i1, i2⟩ := spl_bnd r (acc ++ [x])
      refine ⟨by rw [List.length_cons]; omega, fun p hp => ?_⟩
      obtain ⟨j1, j2⟩ := i2 p hp
      refine ⟨by rw [List.length_append] at j1; simp only [List.length_cons, List.length_nil] at j1 ⊢; omega, fun c hc => ?_⟩
      rcases j2 c hc with z | z
      · rcases List.mem_append.mp z with z | z
        · exact .inl z
        · rw [List.mem_singleton.mp z]; exact .inr List.mem_cons_self
      · exact .inr (List.mem_cons_of_mem _ z)
theorem split_len (s : Str) : (Txt.split s " ").length ≤ s.length + 1 ∧ ∀ w ∈ Txt.split s " ", w.length ≤ s.length ∧ ∀ c ∈ tl w, c ∈ tl s := by
  have e32 : tl " " = [32] := by decide +kernel
  have e := split_spl s " " (by rw [e32]; simp) (kind_ok (by decide +kernel))
  rw [e32] at e
  obtain ⟨i1, i2⟩ := spl_bnd (tl s) []
  rw [← e] at i1 i2
  rw [List.length_map] at i1
  refine ⟨by rw [len_tl]; exact i1, fun w hw => ?_⟩
  obtain ⟨j1, j2⟩ := i2 (tl w) (List.mem_map_of_mem hw)
  refine ⟨by rw [len_tl, len_tl]; simpa using j1, fun c hc => ?_⟩
  rcases j2 c hc with z | z
  · cases z
  · exact z
theorem ok_split {f : Addr} {fd : FuncData} (T : Tx mg) (F : FD K "split_words" (top 32) f fd) : FnOk P w K mg base CX0 1 f fd ["text"] spSplit := by
  refine F.ok sc_split (fun vs H Q E h => ?_) (fun cdv A outer s H vs Q E hr h => ?_)
  · obtain ⟨_, rfl, _⟩ := h
    rfl
  · obtain ⟨s, rfl, hl, k1, k2⟩ := h
    obtain ⟨t4, t3⟩ := split_len s
    have nd := sc_split.nd
    have zl : (400000 : Nat) ≤ sizeLine := by rw [sizeLine_eq]; decide
    refine ⟨_, (pss_cons (ps_set (i := 1) nd rfl (Or.inl rfl) (pe_lst pa_nil))
        (pss_cons (ps_for (passes_of rfl) rfl (pi_list (pe_bm PySem.F.plainAttrs_str PySem.F.slot_str_split PySem.F.type_str_split mt_split (pv 0) (pa_cons pe_str pa_nil))) (pg_name (i := 2) nd rfl (Or.inl rfl)) (pss_cons (ps_if (PW.pt (pw_or (pt_cmpR op_eq (pv 2) pe_str (nomark _)) (pw_or1 (pt_cmpR op_eq (pv 2) pe_str (nomark _))))) (pss_one (ps_ret pe_non)) pss_nil)
        (pss_one (ps_if (pt_val (pe_bm PySem.F.plainAttrs_str PySem.F.slot_str_endswith PySem.F.type_str_endswith mt_endswith (pv 2) (pa_cons pe_str pa_nil))) (pss_one (ps_expr (pe_bm PySem.F.plainAttrs_list PySem.F.slot_list_extend PySem.F.type_list_extend mt_extend (pv 1) (pa_cons (pe_lst (pa_cons (pe_slice sl_str (pv 2) po_none (po_some (pe_un un_neg pe_int))) (pa_cons pe_str pa_nil))) pa_nil)))) (pss_one (ps_expr (pe_bm PySem.F.plainAttrs_list PySem.F.slot_list_append PySem.F.type_list_append mt_append (pv 1) (pa_cons (pv 2) pa_nil))))))))
        (pss_one (ps_ret (pv 1))))), ?_⟩
    refine sq fun U hU => ?_
    walk_at "rd"
    refine ⟨by decide, fun p hp => hU _ _ ?_⟩
    clear hU
    refine sq fun U hU => ?_
    walk_at "rd"
    refine ⟨rfl, by decide, by omega, fun q hq => ?_⟩
    have s0 : Same H (upd H p (.lst [])) := same_new hp
    have pq : p ≠ q := ne_of_none (upd_same (H := H) (a := p) (o := .lst [])) hq
    have s1 : Same H (upd (upd H p (.lst [])) q (.lst ((Txt.split s " ").map V.str))) := s0.trans (same_new hq)
    refine ⟨_, rfl, ⟨_, SqL.of upd_same⟩, ?_⟩
    refine for_l (K := K) (a := q) (xs := (Txt.split s " ").map V.str) (splP H s p q (Txt.split s " ")) ⟨s1, (fun w hw => by simp at hw), upd_same, (upd_ne pq).trans upd_same, _, rfl⟩ (fun i σ H' _ hP => SqL.of hP.2.2.1) ?_ ?_
    · rintro i x σ H' hi ⟨hs, hok, hq', hp', y, rfl⟩
      rw [List.getElem?_map] at hi
      obtain ⟨wd, hw, rfl⟩ := Option.map_eq_some_iff.mp hi
      have il : i < (Txt.split s " ").length := (List.getElem?_eq_some_iff.mp hw).1
      have et' : (Txt.split s " ").take (i + 1) = (Txt.split s " ").take i ++ [wd] := by
        rw [List.take_succ_eq_append_getElem il, (List.getElem?_eq_some_iff.mp hw).2]
      have et : ((Txt.split s " ").take (i + 1)).flatMap sp1 = ((Txt.split s " ").take i).flatMap sp1 ++ sp1 wd := by
        rw [et', List.flatMap_append, List.flatMap_cons, List.flatMap_nil, List.append_nil]
      have fl := flat_len ((Txt.split s " ").take i)
      rw [List.length_take] at fl
      simp only [gName_, List.set_cons_succ, List.set_cons_zero]
      refine sq fun V2 hV => ?_
      walk_at "rd"
      have bad : wd = "" ∨ wd = ";" → Q .non H' := fun z => by
        refine k2 ?_ H' hs
        unfold pSplit
        rw [if_neg]
        intro h
        have := h wd (List.mem_of_getElem? hw)
        rcases z with z | z
        · exact this.1 z
        · exact this.2 z
      by_cases n0 : wd = ""
      · rw [if_pos n0]; exact bad (.inl n0)
      rw [if_neg n0]
      by_cases n1 : wd = ";"
      · rw [if_pos n1]; exact bad (.inr n1)
      rw [if_neg n1]
      refine hV _ _ ?_
      clear hV
      walk_at "rd"
      have hok' : ∀ w ∈ (Txt.split s " ").take (i + 1), w ≠ "" ∧ w ≠ ";" := fun w hw => by
        rw [et'] at hw
        rcases List.mem_append.mp hw with hw | hw
        · exact hok w hw
        · rw [List.mem_singleton.mp hw]; exact ⟨n0, n1⟩
      refine ⟨rfl, ?_⟩
      have up : ∀ (H1 : Hp) (o : HO), Same H' H1 → Same H (upd H1 p o) := fun H1 o s2 b ob e => by
        rw [upd_ne (ne_of_none e hp)]
        exact s2 b ob (hs b ob e)
      have ll : (((Txt.split s " ").take i).flatMap sp1).length ≤ 300000 := by omega
      by_cases en : Txt.endswith wd ";" = true
      · rw [if_pos en]
        have e1 : sp1 wd = [cutS wd none (some (-1)), ";"] := by unfold sp1; rw [if_pos en]
        refine ⟨.inl ⟨rfl, _, SqL.of hp'⟩, wd, rfl, by have := (t3 wd (List.mem_of_getElem? hw)).1; omega, by decide, fun p1 hp1 => ?_⟩
        have s2 : Same H' (upd H' p1 (.lst [.str (cutS wd none (some (-1))), .str ";"])) := same_new hp1
        refine ⟨p, p1, _, _, rfl, rfl, s2 _ _ hp', upd_same, by rw [List.length_map]; simp only [List.length_cons, List.length_nil]; omega, up _ _ s2, hok', (upd_ne (Ne.symm pq)).trans (s2 _ _ hq'), ?_, _, rfl⟩
        rw [upd_same, et, e1, List.map_append]
        rfl
      · rw [if_neg en]
        have e1 : sp1 wd = [wd] := by unfold sp1; rw [if_neg en]
        refine ⟨.inl ⟨rfl, _, SqL.of hp'⟩, p, _, _, rfl, rfl, hp', by rw [List.length_map]; omega, up _ _ (Same.refl _), hok', (upd_ne (Ne.symm pq)).trans hq', ?_, _, rfl⟩
        rw [upd_same, et, e1, List.map_append]
        rfl
    · rintro σ H' ⟨hs, hok, hq', hp', y, rfl⟩
      refine hU _ _ ?_
      walk_at "rd"
      rw [List.length_map, List.take_length] at hp' hok
      have fl := flat_len (Txt.split s " ")
      exact k1 _ (if_pos hok) p H' hs hp' (by omega)
end
end K40

set_option Elab.async false
set_option linter.all false
set_option maxRecDepth 100000
set_option maxHeartbeats 4000000
namespace K40
open PySem PySem.Spec PyProof.Rows L2 Rd Dt Dq Pk TL
local macro_rules | `(tactic| walk_at "rd") => `(tactic| try simp only [↓tFld_, ↓sFld_, ↓tVar_, ↓tC_, ↓tM1, ↓tDNewK_, ↓tOp_, ↓tUn_, ↓rI_, ↓rI0_, ↓rU_, ↓eq_ii, ↓ne_ii, ↓eq_ss, ↓ne_ss, ↓eq_bb, ↓ne_bb, ↓tAndV_, ↓tOrV_, ↓tNotV_, ↓tIf_, ↓tTest_, ↓tB_, ↓tAnd_, ↓tOr_, ↓tNot_, ↓tChain_, ↓tNil_, ↓tCons_, ↓tTup_, ↓tLst_, ↓tCB_, ↓tCall_, ↓tSeq_, ↓tNext_, ↓tRet_, ↓tRetN_, ↓tDrop_, ↓tBreak_, ↓tNever_, ↓tIfS_, ↓tAsg_, ↓gName_, ↓gTup_, ↓gCons_, ↓gNil_, ↓gSub_, ↓tPar_, ↓tPar3_, ↓tSl_, ↓tNoPart_, ↓tPart_, ↓tBM_, ↓tFor_range1, ↓tFor_range2, ↓tFor_list, ↓tFor_tup, L2.start, List.headD_cons, List.headD_nil, List.tail_cons, List.map_cons, List.map_nil, List.length_cons, List.length_nil, List.replicate, List.append_nil, List.nil_append, List.cons_append, List.getElem?_cons_zero, List.getElem?_cons_succ, List.set_cons_zero, List.set_cons_succ, Option.some.injEq, V.int.injEq, V.bl.injEq, V.str.injEq, V.ref.injEq, exists_eq_left, exists_eq_left', exists_eq_right, exists_eq, exists_and_left, and_true, true_and, decide_eq_true_eq, Nat.reduceAdd, Nat.reduceSub, Nat.add_zero, Nat.zero_add, List.cons.injEq, Bool.not_eq_true', decide_eq_false_iff_not, eq_self, reduceCtorEq, Bool.false_eq_true, if_true, if_false, ite_true, ite_false, and_self, ↓tLc_range1, ↓tLc_range2, ↓tLc_list, ↓tLc_tup, ↓tYes_, wipe0, wipe1, ↓tCallS_, ↓rIxL_, ↓rIxT_, ↓rSlL_, ↓rCat_, ↓rSetL_, ↓rRep_, ↓rGcd_, ↓tCallK_, ↓gUnl_, ↓tRaise_, decide_true, decide_false, not_true_eq_false, not_false_eq_true, false_and, or_false, false_or, and_false, and_assoc, exists_const, forall_const, forall_eq'])

section
variable {P : Program} {w : World} {K : PySem.W.Frag} {mg : Str → Option Value} {base : Heap}
/-! ### the new part of the heap -/
def newp (H H' : Hp) : Hp := fun a => match H a with
  | none => H' a
  | some _ => none
theorem newp_at {H H' : Hp} {p : Addr} (h : H p = none) : newp H H' p = H' p := by unfold newp; rw [h]
theorem newp_some {H H' : Hp} {a : Addr} {o : HO} (h : newp H H' a = some o) : H a = none ∧ H' a = some o := by
  unfold newp at h
  cases e : H a with
  | none => rw [e] at h; exact ⟨rfl, h⟩
  | some _ => rw [e] at h; cases h
theorem newp_sub {H H' : Hp} : Same (newp H H') H' := fun a o e => (newp_some e).2
/-- what is new since H, but for p -/
def nw (H : Hp) (p : Addr) (H' : Hp) : Hp := fun a => if a = p then none else newp H H' a
theorem nw_some {H H' : Hp} {p a : Addr} {o : HO} (h : nw H p H' a = some o) : a ≠ p ∧ H a = none ∧ H' a = some o := by
  unfold nw at h
  by_cases z : a = p
  · rw [if_pos z] at h; cases h
  · rw [if_neg z] at h; exact ⟨z, newp_some h⟩
theorem nw_at {H H' : Hp} {p a : Addr} (h1 : a ≠ p) (h2 : H a = none) : nw H p H' a = H' a := by unfold nw; rw [if_neg h1, newp_at h2]
theorem bnone {u p : Addr} {H H' : Hp} (a : But u H H') (n : H' p = none) (h : p ≠ u) : H p = none := by
  cases e : H p with
  | none => rfl
  | some o => rw [a p o h e] at n; cases n
theorem newp_but {H H1 H2 : Hp} {u : Addr} (hu : ∀ p, H p = none → p ≠ u) (b : But u H1 H2) : Same (newp H H1) (newp H H2) := fun a o e => by
  obtain ⟨h1, h2⟩ := newp_some e
  rw [newp_at h1]
  exact b a o (hu a h1) h2
theorem newp_later {H H1 H2 : Hp} {u : Addr} (b : But u H H1) (hu : ∀ p, H1 p = none → p ≠ u) : Same (newp H1 H2) (newp H H2) := fun a o e => by
  obtain ⟨h1, h2⟩ := newp_some e
  rw [newp_at (bnone b h1 (hu a h1))]
  exact h2
theorem nw_but {H H3 H8 : Hp} {u p : Addr} (hu : ∀ p, H p = none → p ≠ u) (b : ∀ a o, a ≠ u → a ≠ p → H3 a = some o → H8 a = some o) : Same (nw H p H3) (nw H p H8) := fun a o e => by
  obtain ⟨h1, h2, h3⟩ := nw_some e
  rw [nw_at h1 h2]
  exact b a o (hu a h2) h1 h3
theorem but_new {u p : Addr} {H H' : Hp} {o : HO} (a : But u H H') (n : H p = none) : But u H (upd H' p o) := fun b x hb e => by
  rw [upd_ne (ne_of_none e n)]
  exact a b x hb e
theorem tup3 {H : Hp} {p : Addr} {a b c : Str} (h : H p = some (.tup [.str a, .str b, .str c])) (ha : smS a = true) (hb : smS b = true) (hc : smS c = true) : Dq K H (.ref p) (.tuple [.str a, .str b, .str c]) := .tup h (.cons (.str _ ha) (.cons (.str _ hb) (.cons (.str _ hc) .nil)))
theorem tup2 {H : Hp} {p : Addr} {a b : Str} (h : H p = some (.tup [.str a, .str b])) (ha : smS a = true) (hb : smS b = true) : Dq K H (.ref p) (.tuple [.str a, .str b]) := .tup h (.cons (.str _ ha) (.cons (.str _ hb) .nil))
theorem nw_sub {H H' : Hp} {p : Addr} : Same (nw H p H') H' := fun a o e => (nw_some e).2.2
/-- data, or None -/
def OV (K : PySem.W.Frag) (H : Hp) (x : V) (o : Option PyData) : Prop := match o with
  | some d => Dq K H x d
  | none => x = .non
theorem OV.up {H H' : Hp} {x : V} {o : Option PyData} (s : Same H H') (h : OV K H x o) : OV K H' x o := by
  cases o with
  | none => exact h
  | some d => exact Dq.up s h
inductive OVs (K : PySem.W.Frag) (H : Hp) : List V → List (Option PyData) → Prop
  | nil : OVs K H [] []
  | cons {x : V} {xs : List V} {o : Option PyData} {os : List (Option PyData)} : OV K H x o → OVs K H xs os → OVs K H (x :: xs) (o :: os)
theorem OVs.up {H H' : Hp} {xs : List V} {os : List (Option PyData)} (s : Same H H') (h : OVs K H xs os) : OVs K H' xs os := by
  induction h with
  | nil => exact .nil
  | cons a _ ih => exact .cons (a.up s) ih
theorem OVs.snoc {H : Hp} {xs : List V} {os : List (Option PyData)} {x : V} {o : Option PyData} (h : OVs K H xs os) (g : OV K H x o) : OVs K H (xs ++ [x]) (os ++ [o]) := by
  induction h with
  | nil => exact .cons g .nil
  | cons a _ ih => exact .cons a ih
theorem OVs.len {H : Hp} {xs : List V} {os : List (Option PyData)} (h : OVs K H xs os) : xs.length = os.length := by
  induction h with
  | nil => rfl
  | cons _ _ ih => rw [List.length_cons, List.length_cons, ih]
theorem OVs.all {H : Hp} {xs : List V} {cs : List PyData} (h : OVs K H xs (cs.map some)) : DqAll K H xs cs := by
  induction cs generalizing xs with
  | nil => cases h; exact .nil
  | cons c cs ih =>
    cases h with
    | cons a b => exact .cons a (ih b)
theorem sm_head {ts : List Str} (h : ∀ w ∈ ts, smS w = true) : smS (ts.headD "") = true := by
  cases ts with
  | nil => decide +kernel
  | cons a r => exact h a List.mem_cons_self
theorem sm_tail {ts : List Str} (h : ∀ w ∈ ts, smS w = true) : ∀ w ∈ ts.tail, smS w = true := fun w hw => h w (List.mem_of_mem_tail hw)
def spCompG (K : PySem.W.Frag) (C : Addr) : Sp := fun vs H Q _ => ∃ (r l : Addr) (rest : List Str), vs = [.ref r] ∧ (∀ w ∈ rest, smS w = true) ∧ WdR C H r l rest ∧ ∀ (x : V) (H' : Hp), But r H H' → WdR C H' r l rest.tail.tail.tail → OV K (newp H H') x (comp3 rest) → Q x H'
theorem sc_rc : FnScope ["words", "one", "sign", "other"] ["words"] (defScope (top 33)) := ⟨rfl, rfl, rfl, by decide +kernel, rfl, by decide +kernel, by decide +kernel⟩
theorem ok_rc {C fI fP fT fO : Addr} {fdI fdP fdT fdO : FuncData} (T : Tx mg) (W : WdT P w K mg base C fI fP fT fO fdI fdP fdT fdO) {f : Addr} {fd : FuncData} (F : FD K "read_comparison" (top 33) f fd) {f1 f2 : Addr} {fd1 fd2 : FuncData} (C1 : Cal P w K mg base CX0 1 "is_letter" ["value"] (spData isLetter K) f1 fd1) (C2 : Cal P w K mg base CX0 2 "is_goal" ["value"] (spData isGoal K) f2 fd2) : FnOk P w K mg base CX0 3 f fd ["words"] (spCompG K C) := by
  obtain ⟨gis_letter, kis_letter, bis_letter, Fis_letter⟩ := C1
  obtain ⟨gis_goal, kis_goal, bis_goal, Fis_goal⟩ := C2
  refine F.ok sc_rc (fun vs H Q E h => ?_) (fun cdv A outer s H vs Q E hr h => ?_)
  · obtain ⟨_, _, _, rfl, _⟩ := h
    rfl
  · obtain ⟨r, l, rest, rfl, hsm, hw, k⟩ := h
    have ma := sm_head hsm
    have mm := sm_head (sm_tail hsm)
    have mb := sm_head (sm_tail (sm_tail hsm))
    have ec : comp3 rest = compOf (rest.headD "") (rest.tail.headD "") (rest.tail.tail.headD "") := rfl
    rw [ec] at k
    have nd := sc_rc.nd
    refine ⟨_, (pss_cons (ps_par3 rfl nd (i := 1) (j := 2) (l := 3) rfl rfl rfl (by decide) (by decide) (by decide) rfl rfl rfl (pa_cons (pe_meth0 (pv 0) W.cl W.m_take W.F_take (hr.mono (by omega)) W.b_take .nil pass0) (pa_cons (pe_meth0 (pv 0) W.cl W.m_take W.F_take (hr.mono (by omega)) W.b_take .nil pass0) (pa_cons (pe_meth0 (pv 0) W.cl W.m_take W.F_take (hr.mono (by omega)) W.b_take .nil pass0) pa_nil))) rfl)
        (pss_cons (ps_if (PW.pt (pw_and (pt_val (pe_call Fis_letter (hr.mono (by omega)) rfl gis_letter kis_letter bis_letter .nil pass0 (pa_cons (pv 1) pa_nil))) (pw_and (pt_cmpR op_in_seq (pv 2) (pe_tup (pa_cons pe_str (pa_cons pe_str pa_nil))) rfl) (pw_and1 (pt_val (pe_call Fis_goal (hr.mono (by omega)) rfl gis_goal kis_goal bis_goal .nil pass0 (pa_cons (pv 3) pa_nil))))))) (pss_one (ps_ret (pe_tup (pa_cons (pv 2) (pa_cons (pv 1) (pa_cons (pv 3) pa_nil)))))) pss_nil)
        (pss_one (ps_ret pe_non)))), ?_⟩
    refine sq fun U hU => ?_
    walk_at "rd"
    refine takeR rfl hw fun H1 b1 w1 => ?_
    refine takeR rfl w1 fun H2 b2 w2 => ?_
    refine takeR rfl w2 fun H3 b3 w3 => hU _ _ ?_
    clear hU
    have bb := b1.trans (b2.trans b3)
    clear hw w1 w2 b1 b2 b3 ec hsm
    generalize rest.headD "" = a at *
    generalize rest.tail.headD "" = m at *
    generalize rest.tail.tail.headD "" = b at *
    generalize rest.tail.tail.tail = r3 at *
    refine sq fun U hU => ?_
    walk_at "rd"
    have bad : ∀ H', Same H3 H' → ¬ (isLetterS a = true ∧ (m = "=" ∨ m = "!=") ∧ isGoal (.str b) = true) → U [some (.ref r), some (.str a), some (.str m), some (.str b)] H' := fun H' s hn => by
      refine hU _ _ ?_
      walk_at "rd"
      refine k _ _ (bb.trans (But.same s)) (w3.up s) ?_
      unfold compOf
      rw [if_neg hn]
      rfl
    refine ⟨_, .str a, rfl, .str a ma, fun H4 s4 => ?_⟩
    walk_at "rd"
    by_cases ha : isLetterS a = true
    · rw [if_pos (show isLetter (.str a) = true from ha)]
      refine ⟨by decide, fun p hp => in2 upd_same ?_⟩
      have s5 : Same H4 (upd H4 p (.tup [.str "=", .str "!="])) := same_new hp
      walk_at "rd"
      by_cases hs : m = "=" ∨ m = "!="
      · rw [if_pos (by rcases hs with rfl | rfl <;> decide)]
        refine ⟨_, .str b, rfl, .str b mb, fun H6 s6 => ?_⟩
        walk_at "rd"
        by_cases hb : isGoal (.str b) = true
        · rw [if_pos hb]
          refine ⟨by decide, fun q hq => ?_⟩
          have s7 : Same H6 (upd H6 q (.tup [.str m, .str a, .str b])) := same_new hq
          have ss := s4.trans (s5.trans s6)
          have qn := bnone (bb.trans (But.same ss)) hq ((w3.up ss).ne hq)
          refine k _ _ (bb.trans (But.same (ss.trans s7))) (w3.up (ss.trans s7)) ?_
          unfold compOf
          rw [if_pos ⟨ha, hs, hb⟩]
          exact tup3 ((newp_at qn).trans upd_same) mm ma mb
        · rw [if_neg hb]
          exact bad _ (s4.trans (s5.trans s6)) (fun z => hb z.2.2)
      · rw [if_neg (by
          rw [Bool.or_eq_true, decide_eq_true_eq, decide_eq_true_eq]
          exact hs)]
        exact bad _ (s4.trans s5) (fun z => hs z.2.1)
    · rw [if_neg (show ¬ isLetter (.str a) = true from ha)]
      exact bad _ s4 (fun z => ha z.1)
/-! ### the test -/
theorem pLoop_fuel : ∀ (n m : Nat) (j : Str) (ts : List Str), ts.length < n → ts.length < m → pLoop n j ts = pLoop m j ts
  | 0, _, _, _, h, _ => absurd h (Nat.not_lt_zero _)
  | _ + 1, 0, _, _, _, h => absurd h (Nat.not_lt_zero _)
  | n + 1, m + 1, j, ts, h1, h2 => by
    rw [pLoop, pLoop]
    by_cases hk : jw (ts.headD "")
    · have hl : ts.tail.tail.tail.tail.length < ts.length := by
        have : 1 ≤ ts.length := by
          cases ts with
          | nil => exact absurd hk (by decide)
          | cons _ _ => simp
        simp only [List.length_tail]
        omega
      rw [pLoop_fuel n m _ _ (by omega) (by omega)]
    · rw [if_neg hk, if_neg hk]
theorem pGo_step {j : Str} {fs : List (Option PyData)} {ts : List Str} (hk : jw (ts.headD "")) : pGo j fs ts = if j = "" ∨ j = ts.headD "" then pGo (ts.headD "") (fs ++ [comp3 ts.tail]) ts.tail.tail.tail.tail else none := by
  have hl : ts.tail.tail.tail.tail.length < ts.length := by
    have : 1 ≤ ts.length := by
      cases ts with
      | nil => exact absurd hk (by decide)
      | cons _ _ => simp
    simp only [List.length_tail]
    omega
  unfold pGo
  rw [pLoop, if_pos hk]
  by_cases hj : j = "" ∨ j = ts.headD ""
  · rw [if_pos hj, if_pos hj, pLoop_fuel ts.length (ts.tail.tail.tail.tail.length + 1) _ _ hl (Nat.lt_succ_self _)]
    cases pLoop (ts.tail.tail.tail.tail.length + 1) (ts.headD "") ts.tail.tail.tail.tail with
    | none => rfl
    | some x =>
      obtain ⟨j', os, r⟩ := x
      show pFin j' (fs ++ (comp3 ts.tail :: os)) r = pFin j' (fs ++ [comp3 ts.tail] ++ os) r
      rw [List.append_assoc]
      rfl
  · rw [if_neg hj, if_neg hj]
theorem pGo_end {j : Str} {fs : List (Option PyData)} {ts : List Str} (hk : ¬ jw (ts.headD "")) : pGo j fs ts = pFin j fs ts := by
  unfold pGo
  rw [pLoop, if_neg hk]
  show pFin j (fs ++ []) ts = _
  rw [List.append_nil]
def spTestG (K : PySem.W.Frag) (C : Addr) : Sp := fun vs H Q _ => ∃ (r l : Addr) (rest : List Str), vs = [.ref r] ∧ (∀ w ∈ rest, smS w = true) ∧ rest.length ≤ 30000 ∧ WdR C H r l rest ∧
  ∀ (x : V) (H' : Hp) (rest' : List Str), But r H H' → WdR C H' r l rest' → OV K (newp H H') x ((pTest rest).map (·.1)) → (∀ d r', pTest rest = some (d, r') → rest' = r') → Q x H'
theorem fit_comp {d : PyData} (h : isComp d = true) : Fit d 1 315 := by
  obtain ⟨sg, a, b, rfl, hs, ha, hb⟩ := comp_cases h
  have sm : ∀ s : Str, s.length ≤ 10 → PyData.strOk s = true → Fit (.str s) 0 102 := fun s h1 h2 => by
    refine Fit.str (n := 10) h1 fun c hc => ?_
    have := List.all_eq_true.mp (show s.cps.toList.all (· < 0x110000) = true by rw [Array.all_toList]; exact h2) c hc
    exact of_decide_eq_true this
  obtain ⟨a', ea, ta⟩ := letter_tok (d := .str a) ha
  cases ea
  obtain ⟨b', eb, tb⟩ := goal_tok hb
  cases eb
  refine Fit.tuple (ds := [.str sg, .str a, .str b]) (k := 0) (n := 102) fun x hx => ?_
  simp only [List.mem_cons, List.not_mem_nil, or_false] at hx
  rcases hx with rfl | rfl | rfl
  · exact sm _ (by rcases hs with rfl | rfl <;> decide) (by rcases hs with rfl | rfl <;> decide +kernel)
  · exact sm _ (Nat.le_trans ta.len (by decide)) ta.ok
  · exact sm _ (Nat.le_trans tb.len (by decide)) tb.ok
def dOf : Option PyData → PyData
  | some d => d
  | none => .none
theorem comp3_comp {ts : List Str} : ∀ d, comp3 ts = some d → isComp d = true := fun d h => (comp3_some h).1
/-- what None in found asks -/
theorem found_dp {H : Hp} : ∀ {xs : List V} {os : List (Option PyData)}, (∀ o ∈ os, ∀ d, o = some d → isComp d = true) → OVs K H xs os → DpAll K H xs (os.map dOf) ∧ (∀ d ∈ os.map dOf, Fit d 1 315) ∧ (((os.map dOf).any fun z => PyData.eqv z .none) = true ↔ optAll os = none)
  | [], [], _, _ => ⟨.nil, (fun _ z => nomatch z), by simp [optAll]⟩
  | x :: xs, o :: os, hc, h => by
    cases h with
    | cons a b =>
      obtain ⟨i1, i2, i3⟩ := found_dp (fun o ho => hc o (List.mem_cons_of_mem _ ho)) b
      cases o with
      | none =>
        have ex : x = .non := a
        subst ex
        refine ⟨.cons .non i1, fun d hd => ?_, ?_⟩
        · rcases List.mem_cons.mp hd with rfl | hd
          · exact ⟨rfl, rfl, Nat.zero_le _, Nat.le_trans Fit.non.sz (by decide), rfl⟩
          · exact i2 d hd
        · rw [List.map_cons, List.any_cons]
          show ((PyData.eqv .none .none || _) = true) ↔ (none = none)
          simp [PyData.eqv]
      | some d =>
        have hd := hc (some d) List.mem_cons_self d rfl
        obtain ⟨sg, aa, bb, rfl, _⟩ := comp_cases hd
        refine ⟨.cons (Dq.dp (.tuple [.str sg, .str aa, .str bb]) _ (by simp [PyData.hasDict, PyData.hasDictAll]) a) i1, fun d' hd' => ?_, ?_⟩
        · rcases List.mem_cons.mp hd' with rfl | hd'
          · exact fit_comp hd
          · exact i2 d' hd'
        · rw [List.map_cons, List.any_cons, optAll, Option.map_eq_none_iff]
          show ((PyData.eqv (.tuple [.str sg, .str aa, .str bb]) .none || _) = true) ↔ _
          rw [show PyData.eqv (.tuple [.str sg, .str aa, .str bb]) .none = false by simp [PyData.eqv], Bool.false_or]
          exact i3
def teP (K : PySem.W.Frag) (C : Addr) (H0 : Hp) (r l p : Addr) (res : Option (PyData × List Str)) (m : Nat) : L2.St → Hp → Prop := fun σ H => ∃ (j : Str) (os : List (Option PyData)) (rest : List Str) (xs : List V) (y z : Option V), res = pGo j os rest ∧ m = rest.length ∧ But r H0 H ∧ WdR C H r l rest ∧ (∀ w ∈ rest, smS w = true) ∧ os.length + rest.length ≤ 30001 ∧
  H p = some (.lst xs) ∧ OVs K (nw H0 p H) xs os ∧ (∀ o ∈ os, ∀ d, o = some d → isComp d = true) ∧ (j = "" ∨ jw j) ∧ σ = [some (.ref r), y, some (.str j), some (.ref p), z]
theorem sc_rt : FnScope ["words", "first", "joint", "found", "word"] ["words"] (defScope (top 34)) := ⟨rfl, rfl, rfl, by decide +kernel, rfl, by decide +kernel, by decide +kernel⟩
theorem ok_rt {C fI fP fT fO : Addr} {fdI fdP fdT fdO : FuncData} (T : Tx mg) (W : WdT P w K mg base C fI fP fT fO fdI fdP fdT fdO) {f : Addr} {fd : FuncData} (F : FD K "read_test" (top 34) f fd) {f1 : Addr} {fd1 : FuncData} (C1 : Cal P w K mg base CX0 3 "read_comparison" ["words"] (spCompG K C) f1 fd1) : FnOk P w K mg base CX0 4 f fd ["words"] (spTestG K C) := by
  obtain ⟨gread_comparison, kread_comparison, bread_comparison, Fread_comparison⟩ := C1
  obtain ⟨tC, hMC⟩ := T.mc
  refine F.ok sc_rt (fun vs H Q E h => ?_) (fun cdv A outer s H vs Q E hr h => ?_)
  · obtain ⟨_, _, _, rfl, _⟩ := h
    rfl
  · obtain ⟨r, l, rest, rfl, hsm, hlen, hw, k⟩ := h
    have nd := sc_rt.nd
    have zl : (400000 : Nat) ≤ sizeLine := by rw [sizeLine_eq]; decide
    refine ⟨_, (pss_cons (ps_par rfl nd (i := 1) (j := 2) rfl rfl (by decide) rfl rfl (pa_cons (pe_call Fread_comparison (hr.mono (by omega)) rfl gread_comparison kread_comparison bread_comparison .nil pass0 (pa_cons (pv 0) pa_nil)) (pa_cons pe_str pa_nil)) rfl)
        (pss_cons (ps_set (i := 3) nd rfl (Or.inl rfl) (pe_lst (pa_cons (pv 1) pa_nil)))
        (pss_cons (ps_while (passes_of rfl) (pt_cmpR op_in_seq (pe_meth0 (pv 0) W.cl W.m_peek W.F_peek (hr.mono (by omega)) W.b_peek .nil pass0) (pe_tup (pa_cons pe_str (pa_cons pe_str pa_nil))) rfl) (pss_cons (ps_set (i := 4) nd rfl (Or.inl rfl) (pe_meth0 (pv 0) W.cl W.m_take W.F_take (hr.mono (by omega)) W.b_take .nil pass0))
        (pss_cons (ps_if (pt_cmpR op_notIn_seq (pv 2) (pe_tup (pa_cons pe_str (pa_cons (pv 4) pa_nil))) rfl) (pss_one (ps_ret pe_non)) pss_nil)
        (pss_cons (ps_set (i := 2) nd rfl (Or.inl rfl) (pv 4))
        (pss_one (ps_expr (pe_bm PySem.F.plainAttrs_list PySem.F.slot_list_append PySem.F.type_list_append mt_append (pv 3) (pa_cons (pe_call Fread_comparison (hr.mono (by omega)) rfl gread_comparison kread_comparison bread_comparison .nil pass0 (pa_cons (pv 0) pa_nil)) pa_nil))))))))
        (pss_cons (ps_if (PW.pt (pw_or (pt_cmpR (op_inD hr.units65F) pe_non (pv 3) rfl) (pw_or1 (pt_cmpR op_gt (pe_callB call_len_seq (by rfl) T.b_len PySem.boot_len (pa_cons (pv 3) pa_nil)) (pe_glob (v := .int 3) rfl hMC ⟨_, rfl⟩) (nomark _))))) (pss_one (ps_ret pe_non)) pss_nil)
        (pss_one (ps_ret (pe_tup (pa_cons (pe_ifExp (pt_cmpR op_ne (pv 2) pe_str (nomark _)) (pv 2) pe_str) (pa_cons (pe_callTy call_tuple_of (by rfl) T.b_tuple (by decide +kernel) (pa_cons (pv 3) pa_nil)) pa_nil))))))))), ?_⟩
    refine sq fun U hU => ?_
    walk_at "rd"
    refine ⟨r, l, rest, rfl, hsm, hw, fun x H1 b1 w1 hx => ?_⟩
    walk_at "rd"
    refine hU _ _ ?_
    clear hU
    refine sq fun U hU => ?_
    walk_at "rd"
    refine ⟨by decide, fun p hp => hU _ _ ?_⟩
    clear hU
    have hr0 : ∀ a, H a = none → a ≠ r := fun a => hw.ne
    have hw0 : ∀ a, H a = none → a ≠ l := fun a => hw.nel
    have p0 := bnone b1 hp (w1.ne hp)
    have pr : p ≠ r := hr0 p p0
    refine sq fun U hU => ?_
    refine ⟨teP K C H r l p (pTest rest), ⟨_, "", [comp3 rest], rest.tail.tail.tail, [x], some x, none, rfl, rfl, but_new b1 p0, w1.up (same_new hp), sm_tail (sm_tail (sm_tail hsm)), (show ([comp3 rest] : List (Option PyData)).length + rest.tail.tail.tail.length ≤ 30001 by simp only [List.length_cons, List.length_nil, List.length_tail]; omega), upd_same, .cons (hx.up fun a o e => ?_) .nil, (fun o ho d e => by rw [List.mem_singleton.mp ho] at e; exact comp3_comp d e), .inl rfl, rfl⟩, ?_⟩
    · obtain ⟨h1, h2⟩ := newp_some e
      have n1 : a ≠ p := ne_of_none h2 hp
      rw [nw_at n1 h1, upd_ne n1]
      exact h2
    · rintro m σ H2 ⟨j, os, ts, xs, y, z, eres, rfl, b2, w2, sm2, ln2, e2, D2, hcs, hj, rfl⟩
      walk_at "rd"
      refine peekR rfl w2 ⟨by decide, fun q1 hq1 => in2 upd_same ?_⟩
      have s3 : Same H2 (upd H2 q1 (.tup [.str "and", .str "or"])) := same_new hq1
      generalize upd H2 q1 (HO.tup [.str "and", .str "or"]) = H3 at s3 ⊢
      have b3 := b2.trans (But.same s3)
      have w3 := w2.up s3
      have e3 := s3 _ _ e2
      have D3 := D2.up (nw_but (p := p) hr0 fun a o _ _ e => s3 a o e)
      have xl := D3.len
      clear b2 w2 e2 D2 s3 hq1
      by_cases hk : jw (ts.headD "")
      · have hb : (decide (ts.headD "" = "and") || decide (ts.headD "" = "or")) = true := by rw [Bool.or_eq_true, decide_eq_true_eq, decide_eq_true_eq]; exact hk
        refine ⟨true, congrArg V.bl hb, ?_⟩
        rw [if_pos rfl]
        have tl0 : ts.tail.tail.tail.tail.length < ts.length := by
          have : 1 ≤ ts.length := by
            cases ts with
            | nil => exact absurd hk (by decide)
            | cons _ _ => simp
          simp only [List.length_tail]
          omega
        rw [pGo_step hk] at eres
        refine ⟨teP K C H r l p (pTest rest) ts.tail.tail.tail.tail.length, fun σ' H' h => ⟨_, tl0, h⟩, ?_⟩
        refine takeR rfl w3 fun H4 b4 w4 => ?_
        have sk := sm_head sm2
        generalize ts.headD "" = kk at *
        refine ⟨by decide, fun q2 hq2 => notIn2 upd_same ?_⟩
        have s5 : Same H4 (upd H4 q2 (.tup [.str "", .str kk])) := same_new hq2
        by_cases hjk : j = "" ∨ j = kk
        · have hk2 : (!(decide (j = "") || decide (j = kk))) = false := by
            rw [Bool.not_eq_false', Bool.or_eq_true, decide_eq_true_eq, decide_eq_true_eq]
            exact hjk
          refine ⟨false, congrArg V.bl hk2, ?_⟩
          rw [if_neg (by decide)]
          rw [if_pos hjk] at eres
          have b35 : But r H3 (upd H4 q2 (.tup [.str "", .str kk])) := b4.trans (But.same s5)
          have w5 := w4.up s5
          have e5 := b35 _ _ pr e3
          generalize upd H4 q2 (HO.tup [V.str (Str.ofString ""), V.str kk]) = H5 at b35 w5 e5 ⊢
          refine ⟨.inl ⟨rfl, _, SqL.of e5⟩, r, l, _, rfl, sm_tail sm2, w5, fun x2 H6 b6 w6 hx2 => ?_⟩
          have b36 := b35.trans b6
          refine ⟨p, xs, x2, rfl, rfl, b6 _ _ pr e5, by omega, kk, os ++ [comp3 ts.tail], ts.tail.tail.tail.tail, xs ++ [x2], y, some (.str kk), eres, rfl, but_new (b3.trans b36) p0, w6.put pr (hw0 p p0), sm_tail (sm_tail (sm_tail (sm_tail sm2))), by rw [List.length_append]; simp only [List.length_cons, List.length_nil]; omega, upd_same, OVs.snoc (D3.up (nw_but hr0 fun a o h1 h2 e => ?_)) (hx2.up fun a o e => ?_), ?_, .inr hk, rfl⟩
          · rw [upd_ne h2]
            exact b36 a o h1 e
          · obtain ⟨h1, h2⟩ := newp_some e
            have n1 : a ≠ p := (ne_of_none e5 h1).symm
            rw [nw_at n1 (bnone (b3.trans b35) h1 (w5.ne h1)), upd_ne n1]
            exact h2
          · intro o ho d e
            rcases List.mem_append.mp ho with ho | ho
            · exact hcs o ho d e
            · rw [List.mem_singleton.mp ho] at e
              exact comp3_comp d e
        · have hk2 : (!(decide (j = "") || decide (j = kk))) = true := by
            rw [Bool.not_eq_true', Bool.or_eq_false_iff, decide_eq_false_iff_not, decide_eq_false_iff_not]
            exact ⟨fun z => hjk (.inl z), fun z => hjk (.inr z)⟩
          refine ⟨true, congrArg V.bl hk2, ?_⟩
          rw [if_pos rfl]
          rw [if_neg hjk] at eres
          refine k _ _ _ (b3.trans (b4.trans (But.same s5))) (w4.up s5) ?_ (fun d r' e => by rw [eres] at e; cases e)
          rw [eres]
          rfl
      · have hb : (decide (ts.headD "" = "and") || decide (ts.headD "" = "or")) = false := by
          rw [Bool.or_eq_false_iff, decide_eq_false_iff_not, decide_eq_false_iff_not]
          exact ⟨fun z => hk (.inl z), fun z => hk (.inr z)⟩
        refine ⟨false, congrArg V.bl hb, ?_⟩
        rw [if_neg (by decide)]
        refine hU _ _ ?_
        clear hU
        rw [pGo_end hk] at eres
        obtain ⟨f1, f2, f3⟩ := found_dp hcs (D3.up nw_sub)
        have bad : pFin j os ts = none → ∀ H', Same H3 H' → Q .non H' := fun z H' s => by
          rw [z] at eres
          refine k _ _ _ (b3.trans (But.same s)) (w3.up s) ?_ (fun d r' e => by rw [eres] at e; cases e)
          rw [eres]
          rfl
        refine sq fun U hU => ?_
        walk_at "rd"
        refine ⟨.none, os.map dOf, .non, .lst (SqL.of e3) f1, by decide +kernel, (Fit.list f2).shaped (by decide), ?_⟩
        cases oa : optAll os with
        | none =>
          rw [f3.mpr oa]
          walk_at "rd"
          refine bad ?_ _ (Same.refl _)
          unfold pFin
          rw [oa]
        | some cs =>
          have fn : ((os.map dOf).any fun z => PyData.eqv z .none) = false := by
            rw [Bool.eq_false_iff]
            intro z
            rw [f3.mp z] at oa
            cases oa
          rw [fn]
          have eos := optAll_some oa
          walk_at "rd"
          refine ⟨_, .inl (SqL.of e3), ?_⟩
          have ll : xs.length = cs.length := by rw [xl, eos, List.length_map]
          by_cases h3 : cs.length ≤ 3
          · rw [if_neg (by omega)]
            refine hU _ _ ?_
            clear hU
            have er : pTest rest = some (.tuple [.str (if j = "" then "and" else j), .tuple cs], ts) := by
              rw [eres]
              unfold pFin
              rw [oa]
              exact if_pos h3
            have Dc : DqAll K (nw H p H3) xs cs := OVs.all (by rw [← eos]; exact D3)
            have fin : ∀ l' q, H3 l' = none → upd H3 l' (.tup xs) q = none → Q (.ref q) (upd (upd H3 l' (.tup xs)) q (.tup [.str (if j = "" then "and" else j), .ref l'])) := fun l' q hl' hq => by
              have s4 : Same H3 (upd H3 l' (.tup xs)) := same_new hl'
              have s5 : Same (upd H3 l' (.tup xs)) (upd (upd H3 l' (.tup xs)) q (.tup [.str (if j = "" then "and" else j), .ref l'])) := same_new hq
              have l0 := bnone b3 hl' (w3.ne hl')
              have q0 := bnone (b3.trans (But.same s4)) hq ((w3.up s4).ne hq)
              have sj : smS (if j = "" then "and" else j) = true := by
                rcases hj with rfl | rfl | rfl <;> decide +kernel
              refine k _ _ ts (b3.trans (But.same (s4.trans s5))) (w3.up (s4.trans s5)) ?_ (fun d r' e => by rw [er] at e; cases e; rfl)
              rw [er]
              refine Dq.tup ((newp_at q0).trans upd_same) (.cons (.str _ sj) (.cons (.tup ((newp_at l0).trans (s5 _ _ upd_same)) (Dc.up fun a o e => ?_)) .nil))
              obtain ⟨h1, h2, h3⟩ := nw_some e
              rw [newp_at h2]
              exact s5 _ _ (s4 _ _ h3)
            walk_at "rd"
            by_cases dz : j = ""
            · subst dz
              rw [if_neg (by simp)]
              refine ⟨_, .inl ⟨SqL.of e3, fun l' hl' => ⟨by decide, fun q hq => fin l' q hl' hq⟩⟩⟩
            · rw [if_neg dz] at fin
              rw [if_pos dz]
              refine ⟨_, .inl ⟨SqL.of e3, fun l' hl' => ⟨by decide, fun q hq => fin l' q hl' hq⟩⟩⟩
          · rw [if_pos (by omega)]
            refine bad ?_ _ (Same.refl _)
            unfold pFin
            rw [oa]
            exact if_neg h3
end
end K40

set_option Elab.async false
set_option linter.all false
set_option maxRecDepth 100000
set_option maxHeartbeats 4000000
namespace K40
open PySem PySem.Spec PyProof.Rows L2 Rd Dt Dq Pk TL
local macro_rules | `(tactic| walk_at "rd") => `(tactic| try simp only [↓tFld_, ↓sFld_, ↓tVar_, ↓tC_, ↓tM1, ↓tDNewK_, ↓tOp_, ↓tUn_, ↓rI_, ↓rI0_, ↓rU_, ↓eq_ii, ↓ne_ii, ↓eq_ss, ↓ne_ss, ↓eq_bb, ↓ne_bb, ↓tAndV_, ↓tOrV_, ↓tNotV_, ↓tIf_, ↓tTest_, ↓tB_, ↓tAnd_, ↓tOr_, ↓tNot_, ↓tChain_, ↓tNil_, ↓tCons_, ↓tTup_, ↓tLst_, ↓tCB_, ↓tCall_, ↓tSeq_, ↓tNext_, ↓tRet_, ↓tRetN_, ↓tDrop_, ↓tBreak_, ↓tNever_, ↓tIfS_, ↓tAsg_, ↓gName_, ↓gTup_, ↓gCons_, ↓gNil_, ↓gSub_, ↓tPar_, ↓tPar3_, ↓tSl_, ↓tNoPart_, ↓tPart_, ↓tBM_, ↓tFor_range1, ↓tFor_range2, ↓tFor_list, ↓tFor_tup, L2.start, List.headD_cons, List.headD_nil, List.tail_cons, List.map_cons, List.map_nil, List.length_cons, List.length_nil, List.replicate, List.append_nil, List.nil_append, List.cons_append, List.getElem?_cons_zero, List.getElem?_cons_succ, List.set_cons_zero, List.set_cons_succ, Option.some.injEq, V.int.injEq, V.bl.injEq, V.str.injEq, V.ref.injEq, exists_eq_left, exists_eq_left', exists_eq_right, exists_eq, exists_and_left, and_true, true_and, decide_eq_true_eq, Nat.reduceAdd, Nat.reduceSub, Nat.add_zero, Nat.zero_add, List.cons.injEq, Bool.not_eq_true', decide_eq_false_iff_not, eq_self, reduceCtorEq, Bool.false_eq_true, if_true, if_false, ite_true, ite_false, and_self, ↓tLc_range1, ↓tLc_range2, ↓tLc_list, ↓tLc_tup, ↓tYes_, wipe0, wipe1, ↓tCallS_, ↓rIxL_, ↓rIxT_, ↓rSlL_, ↓rCat_, ↓rSetL_, ↓rRep_, ↓rGcd_, ↓tCallK_, ↓gUnl_, ↓tRaise_, decide_true, decide_false, not_true_eq_false, not_false_eq_true, false_and, or_false, false_or, and_false, and_assoc, exists_const, forall_const, forall_eq'])

section
variable {P : Program} {w : World} {K : PySem.W.Frag} {mg : Str → Option Value} {base : Heap}
abbrev ErI (K : PySem.W.Frag) (mg : Str → Option Value) := Er K mg "InvalidTest" "given"
def testOfD : PyData → Option PyData
  | .str s => pOf s
  | _ => none
theorem sm_sub {s w : Str} (hs : smS s = true) (hl : w.length ≤ s.length) (hc : ∀ c ∈ tl w, c ∈ tl s) : smS w = true := by
  obtain ⟨h1, h2⟩ := Bool.and_eq_true_iff.mp hs
  have h1' : s.length ≤ 10000 := of_decide_eq_true h1
  unfold smS
  rw [Bool.and_eq_true]
  refine ⟨decide_eq_true (by omega), ?_⟩
  unfold PyData.strOk at h2 ⊢
  rw [← Array.all_toList, List.all_eq_true] at h2 ⊢
  exact fun c hcw => h2 c (hc c hcw)
theorem pSplit_sm {s : Str} {ts : List Str} (hs : smS s = true) (h : pSplit s = some ts) : ∀ w ∈ ts, smS w = true := by
  unfold pSplit at h
  split at h
  · injection h with h
    subst h
    intro w hw
    obtain ⟨w0, h1, h2⟩ := List.mem_flatMap.mp hw
    obtain ⟨l1, l2⟩ := (split_len s).2 w0 h1
    have s0 := sm_sub hs l1 l2
    unfold sp1 at h2
    split at h2
    · simp only [List.mem_cons, List.not_mem_nil, or_false] at h2
      rcases h2 with rfl | rfl
      · refine sm_sub s0 (cutS_length _ _ _) fun c hc => ?_
        have : c ∈ (List.take _ (List.drop _ (tl w0))) := hc
        exact List.mem_of_mem_drop (List.mem_of_mem_take this)
      · decide +kernel
    · rw [List.mem_singleton.mp h2]; exact s0
  · cases h
theorem pTest_ref {ts : List Str} {d : PyData} {r : List Str} (h : pTest ts = some (d, r)) : ∃ ds, d = .tuple ds := by
  unfold pTest pGo at h
  split at h
  · unfold pFin at h
    split at h
    · split at h
      · injection h with h
        injection h with h1 h2
        exact ⟨_, h1.symm⟩
      · cases h
    · cases h
  · cases h
theorem dq_ref {H : Hp} {x : V} {ds : List PyData} (h : Dq K H x (.tuple ds)) : ∃ a, x = .ref a := by
  cases h
  exact ⟨_, rfl⟩
def spTestOf (K : PySem.W.Frag) : Sp := fun vs H Q _ => ∃ (x : V) (d : PyData), vs = [x] ∧ Dq K H x d ∧ ∀ (y : V) (H' : Hp), Same H H' → OV K H' y (testOfD d) → Q y H'
theorem sc_to : FnScope ["value", "words", "row", "found"] ["value"] (defScope (top 35)) := ⟨rfl, rfl, rfl, by decide +kernel, rfl, by decide +kernel, by decide +kernel⟩
theorem ok_to {C fI fP fT fO : Addr} {fdI fdP fdT fdO : FuncData} (T : Tx mg) (W : WdT P w K mg base C fI fP fT fO fdI fdP fdT fdO) {f : Addr} {fd : FuncData} (F : FD K "test_of" (top 35) f fd) {f1 f2 : Addr} {fd1 fd2 : FuncData} (C1 : Cal P w K mg base CX0 1 "split_words" ["text"] spSplit f1 fd1) (C2 : Cal P w K mg base CX0 4 "read_test" ["words"] (spTestG K C) f2 fd2) : FnOk P w K mg base CX0 5 f fd ["value"] (spTestOf K) := by
  obtain ⟨gsplit_words, ksplit_words, bsplit_words, Fsplit_words⟩ := C1
  obtain ⟨gread_test, kread_test, bread_test, Fread_test⟩ := C2
  refine F.ok sc_to (fun vs H Q E h => ?_) (fun cdv A outer s H vs Q E hr h => ?_)
  · obtain ⟨_, _, rfl, _⟩ := h
    rfl
  · obtain ⟨v, d, rfl, hx, k⟩ := h
    have nd := sc_to.nd
    refine ⟨_, (pss_cons (ps_set (i := 1) nd rfl (Or.inl rfl) (pe_ifExp (pt_val (pe_callB call_isi (by rfl) T.b_isinstance (by decide +kernel) (pa_cons (pv 0) (pa_cons (pe_bltn (v := .ty "str") rfl T.b_str (by decide +kernel) rfl) pa_nil)))) (pe_call Fsplit_words (hr.mono (by omega)) rfl gsplit_words ksplit_words bsplit_words .nil pass0 (pa_cons (pv 0) pa_nil)) pe_non))
        (pss_cons (ps_if (pt_cmpR op_isN (pv 1) pe_non (nomark _)) (pss_one (ps_ret pe_non)) pss_nil)
        (pss_cons (ps_set (i := 2) nd rfl (Or.inl rfl) (pe_make W.mak W.F_init (hr.mono (by omega)) rfl W.mgC W.b_init .nil pass0 (pa_cons (pv 1) pa_nil)))
        (pss_cons (ps_set (i := 3) nd rfl (Or.inl rfl) (pe_call Fread_test (hr.mono (by omega)) rfl gread_test kread_test bread_test .nil pass0 (pa_cons (pv 2) pa_nil)))
        (pss_one (ps_ret (pe_ifExp (pt_val (pe_meth0 (pv 2) W.cl W.m_is_over W.F_is_over (hr.mono (by omega)) W.b_is_over .nil pass0)) (pv 3) pe_non))))))), ?_⟩
    refine sq fun U hU => ?_
    walk_at "rd"
    refine isi_str hx ?_
    cases hx with
    | str s hs =>
      have hl : s.length ≤ 10000 := of_decide_eq_true (Bool.and_eq_true_iff.mp hs).1
      replace k : ∀ (y : V) (H' : Hp), Same H H' → OV K H' y (pOf s) → Q y H' := k
      simp only [isStr]
      walk_at "rd"
      refine ⟨s, rfl, hl, fun ts ets p H1 s1 e1 tl1 => hU _ _ ?_, fun en H1 s1 => hU _ _ ?_⟩
      · clear hU
        have sm := pSplit_sm hs ets
        refine sq fun U hU => ?_
        walk_at "rd"
        refine hU _ _ ?_
        clear hU
        refine sq fun U hU => ?_
        walk_at "rd"
        refine ⟨_, rfl, ?_⟩
        intro x dx nx ndx hne
        have s2 : Same H1 (upd (upd H1 dx (.own x)) x (.ins C dx [])) := fun b o e => by
          rw [upd_ne (ne_of_none e nx), upd_ne (ne_of_none e ndx)]
          exact e
        refine ⟨x, p, dx, rfl, upd_same, fun H3 b3 e3 => ⟨rfl, hU _ _ ?_⟩⟩
        clear hU
        have px : p ≠ x := ne_of_none e1 nx
        have w3 : WdR C H3 x p ts := ⟨_, 0, dx, e3, b3 _ _ px (s2 _ _ e1), rfl⟩
        refine sq fun U hU => ?_
        walk_at "rd"
        refine ⟨x, p, ts, rfl, sm, tl1, w3, fun y H4 rest' b4 w4 hy hrest => hU _ _ ?_⟩
        clear hU
        have s4 : Same H H4 := fun b o e => by
          have bx : b ≠ x := ne_of_none (s1 _ _ e) nx
          exact b4 _ _ bx (b3 _ _ bx (s2 _ _ (s1 _ _ e)))
        walk_at "rd"
        refine overR rfl w4 ?_
        walk_at "rd"
        have eo : pOf s = match pTest ts with
            | some (d, []) => some d
            | _ => none := by
          unfold pOf
          rw [ets]
          try rfl
        cases ep : pTest ts with
        | none =>
          rw [ep] at hy eo
          have ey : y = .non := hy
          subst ey
          have fin := k .non H4 s4 (by rw [eo]; rfl)
          cases rest' <;> exact fin
        | some dr =>
          obtain ⟨d, r'⟩ := dr
          rw [ep] at hy eo
          obtain rfl := hrest d r' ep
          cases rest' with
          | nil => exact k y H4 s4 (by rw [eo]; exact Dq.up newp_sub hy)
          | cons a b => exact k .non H4 s4 (by rw [eo]; rfl)
      · clear hU
        refine sq fun U hU => ?_
        walk_at "rd"
        refine k .non H1 s1 ?_
        unfold pOf
        rw [en]
        rfl
    | _ =>
      simp only [isStr]
      walk_at "rd"
      refine hU _ _ ?_
      clear hU
      refine sq fun U hU => ?_
      walk_at "rd"
      exact k .non H (Same.refl H) rfl
theorem ov_isN {H : Hp} {x : V} {d : PyData} (h : OV K H x (testOfD d)) : decide (x = .non) = !(testOfD d).isSome := by
  cases e : testOfD d with
  | none =>
    rw [e] at h
    have ex : x = .non := h
    rw [ex]; rfl
  | some t =>
    rw [e] at h
    cases d with
    | str s =>
      obtain ⟨k, cs, rfl, _⟩ := test_cases (pOf_iff.mp e).1
      obtain ⟨a, rfl⟩ := dq_ref h
      exact decide_eq_false (fun z => nomatch z)
    | _ => cases e
def isTestD (d : PyData) : Bool := (testOfD d).isSome
def spTT (K : PySem.W.Frag) (C : Addr) : Sp := fun vs H Q E => ∃ (x : V) (d : PyData), vs = [x] ∧ Dq K H x d ∧ (∀ e, testOfD d = some e → ∀ (y : V) (H' : Hp), Same H H' → Dq K H' y e → Q y H') ∧ (testOfD d = none → ∀ dd H', Same H H' → H' dd = none → E (.ref C) (some dd) (upd H' dd (.xd [("given", x)])))
theorem sc_tt : FnScope ["test", "tree"] ["test"] (defScope (top 37)) := ⟨rfl, rfl, rfl, by decide +kernel, rfl, by decide +kernel, by decide +kernel⟩
theorem ok_tt {C fI : Addr} {fdI : FuncData} (R : ErI K mg C fI fdI) {f : Addr} {fd : FuncData} (F : FD K "test_tree" (top 37) f fd) {f1 : Addr} {fd1 : FuncData} (C1 : Cal P w K mg base CX0 5 "test_of" ["value"] (spTestOf K) f1 fd1) : FnOk P w K mg base (L2.CX P w) 6 f fd ["test"] (spTT K C) := by
  obtain ⟨gtest_of, ktest_of, btest_of, Ftest_of⟩ := C1
  refine F.ok sc_tt (fun vs H Q E h => ?_) (fun cdv A outer s H vs Q E hr h => ?_)
  · obtain ⟨_, _, rfl, _⟩ := h
    rfl
  · obtain ⟨v, d, rfl, hx, k1, k2⟩ := h
    have nd := sc_tt.nd
    refine ⟨_, (pss_cons (ps_set (i := 1) nd rfl (Or.inl rfl) (pe_call Ftest_of (hr.mono (by omega)) rfl gtest_of ktest_of btest_of .nil pass0 (pa_cons (pv 0) pa_nil)))
        (pss_cons (ps_if (pt_cmpR op_isN (pv 1) pe_non (nomark _)) (pss_one (ps_raiseE rfl R hr (takes_of rfl rfl rfl rfl) (pv 0) mono_var)) pss_nil)
        (pss_one (ps_ret (pv 1))))), ?_⟩
    refine sq fun U hU => ?_
    walk_at "rd"
    refine ⟨v, d, rfl, hx, fun y H1 s1 hy => hU _ _ ?_⟩
    clear hU
    have en := ov_isN hy
    refine sq fun U hU => ?_
    walk_at "rd"
    cases e : testOfD d with
    | none =>
      rw [e] at hy en
      have ey : y = .non := hy
      rw [if_pos ey]
      exact fun dd hd => k2 e dd H1 s1 hd
    | some t =>
      rw [e] at hy en
      rw [if_neg (of_decide_eq_false en)]
      refine hU _ _ ?_
      walk_at "rd"
      exact k1 t e y H1 s1 hy
end
end K40

set_option Elab.async false
set_option linter.all false
set_option maxRecDepth 100000
set_option maxHeartbeats 4000000
namespace K40
open PySem PySem.Spec PyProof.Rows L2 Rd Dt Dq Pk TL
local macro_rules | `(tactic| walk_at "rd") => `(tactic| try simp only [↓tFld_, ↓sFld_, ↓tVar_, ↓tC_, ↓tM1, ↓tDNewK_, ↓tOp_, ↓tUn_, ↓rI_, ↓rI0_, ↓rU_, ↓eq_ii, ↓ne_ii, ↓eq_ss, ↓ne_ss, ↓eq_bb, ↓ne_bb, ↓tAndV_, ↓tOrV_, ↓tNotV_, ↓tIf_, ↓tTest_, ↓tB_, ↓tAnd_, ↓tOr_, ↓tNot_, ↓tChain_, ↓tNil_, ↓tCons_, ↓tTup_, ↓tLst_, ↓tCB_, ↓tCall_, ↓tSeq_, ↓tNext_, ↓tRet_, ↓tRetN_, ↓tDrop_, ↓tBreak_, ↓tNever_, ↓tIfS_, ↓tAsg_, ↓gName_, ↓gTup_, ↓gCons_, ↓gNil_, ↓gSub_, ↓tPar_, ↓tPar3_, ↓tSl_, ↓tNoPart_, ↓tPart_, ↓tBM_, ↓tFor_range1, ↓tFor_range2, ↓tFor_list, ↓tFor_tup, L2.start, List.headD_cons, List.headD_nil, List.tail_cons, List.map_cons, List.map_nil, List.length_cons, List.length_nil, List.replicate, List.append_nil, List.nil_append, List.cons_append, List.getElem?_cons_zero, List.getElem?_cons_succ, List.set_cons_zero, List.set_cons_succ, Option.some.injEq, V.int.injEq, V.bl.injEq, V.str.injEq, V.ref.injEq, exists_eq_left, exists_eq_left', exists_eq_right, exists_eq, exists_and_left, and_true, true_and, decide_eq_true_eq, Nat.reduceAdd, Nat.reduceSub, Nat.add_zero, Nat.zero_add, List.cons.injEq, Bool.not_eq_true', decide_eq_false_iff_not, eq_self, reduceCtorEq, Bool.false_eq_true, if_true, if_false, ite_true, ite_false, and_self, ↓tLc_range1, ↓tLc_range2, ↓tLc_list, ↓tLc_tup, ↓tYes_, wipe0, wipe1, ↓tCallS_, ↓rIxL_, ↓rIxT_, ↓rSlL_, ↓rCat_, ↓rSetL_, ↓rRep_, ↓rGcd_, ↓tCallK_, ↓gUnl_, ↓tRaise_, decide_true, decide_false, not_true_eq_false, not_false_eq_true, false_and, or_false, false_or, and_false, and_assoc, exists_const, forall_const, forall_eq'])

section
variable {P : Program} {w : World} {K : PySem.W.Frag} {mg : Str → Option Value} {base : Heap}
/-! ### the law's reader -/
def RdR (H : Hp) (rd l : Addr) (ts : List Str) (i : Nat) : Prop := H rd = some (.lst [.ref l, .int i, .int 0]) ∧ H l = some (.lst (ts.map V.str))
theorem RdR.ne {H : Hp} {rd l : Addr} {ts : List Str} {i : Nat} (h : RdR H rd l ts i) {p : Addr} (n : H p = none) : p ≠ rd := fun z => by
  rw [z, h.1] at n; cases n
theorem RdR.nel {H : Hp} {rd l : Addr} {ts : List Str} {i : Nat} (h : RdR H rd l ts i) {p : Addr} (n : H p = none) : p ≠ l := fun z => by
  rw [z, h.2] at n; cases n
theorem RdR.up {H H' : Hp} {rd l : Addr} {ts : List Str} {i : Nat} (h : RdR H rd l ts i) (s : Same H H') : RdR H' rd l ts i := ⟨s _ _ h.1, s _ _ h.2⟩
theorem RdR.put {H : Hp} {rd l p : Addr} {ts : List Str} {i : Nat} {o : HO} (h : RdR H rd l ts i) (h1 : p ≠ rd) (h2 : p ≠ l) : RdR (upd H p o) rd l ts i := ⟨(upd_ne (Ne.symm h1)).trans h.1, (upd_ne (Ne.symm h2)).trans h.2⟩
def spAhead : Sp := fun vs H Q _ => ∃ (rd l : Addr) (ts : List Str) (i : Nat), vs = [.ref rd] ∧ RdR H rd l ts i ∧ Q (.str ((ts.drop i).headD "")) H
def spNext : Sp := fun vs H Q _ => ∃ (rd l : Addr) (ts : List Str) (i : Nat), vs = [.ref rd] ∧ RdR H rd l ts i ∧ ∀ H', But rd H H' → RdR H' rd l ts (i + 1) → Q (.str ((ts.drop i).headD "")) H'
theorem sc_ah : FnScope ["_law_reader"] ["_law_reader"] (defScope (top 52)) := ⟨rfl, rfl, rfl, by decide +kernel, rfl, by decide +kernel, by decide +kernel⟩
theorem ok_ah {f : Addr} {fd : FuncData} (T : Tx mg) (F : FD K "_law_ahead_word" (top 52) f fd) : FnOk P w K mg base CX0 1 f fd ["_law_reader"] spAhead := by
  refine F.ok sc_ah (fun vs H Q E h => ?_) (fun cdv A outer s H vs Q E hr h => ?_)
  · obtain ⟨_, _, _, _, rfl, _⟩ := h
    rfl
  · obtain ⟨rd, l, ts, i, rfl, ⟨e1, e2⟩, k⟩ := h
    rw [head_at rfl] at k
    refine ⟨_, (pss_one (ps_ret (pe_ifExp (pt_cmpR op_lt (pe_ix (r := rIxL K) ix_list (pv 0) pe_int (fun _ _ => rfl)) (pe_callB call_len_seq (by rfl) T.b_len PySem.boot_len (pa_cons (pe_ix (r := rIxL K) ix_list (pv 0) pe_int (fun _ _ => rfl)) pa_nil)) (nomark _)) (pe_ix (r := rIxL K) ix_list (pe_ix (r := rIxL K) ix_list (pv 0) pe_int (fun _ _ => rfl)) (pe_ix (r := rIxL K) ix_list (pv 0) pe_int (fun _ _ => rfl)) (fun _ _ => rfl)) pe_str))), ?_⟩
    walk_at "rd"
    refine ⟨_, SqL.of e1, _, atI_nn (by decide) rfl, _, SqL.of e1, _, atI_nn (by decide) rfl, l, rfl, _, .inl (SqL.of e2), i, rfl, ?_⟩
    rw [List.length_map]
    by_cases c : i < ts.length
    · rw [if_pos (by omega)]
      have ei : ts[i]? = some (ts[i]'c) := List.getElem?_eq_getElem c
      rw [ei] at k
      exact ⟨_, SqL.of e1, _, atI_nn (by decide) rfl, _, SqL.of e1, _, atI_nn (by decide) rfl, l, rfl, _, i, rfl, SqL.of e2, _, atI_nn (by omega) (by rw [List.getElem?_map]; show Option.map V.str (ts[i]?) = _; rw [ei]; rfl), k⟩
    · rw [if_neg (by omega)]
      have ei : ts[i]? = none := List.getElem?_eq_none (by omega)
      rw [ei] at k
      exact k
theorem sc_nx : FnScope ["_law_reader", "_law_token"] ["_law_reader"] (defScope (top 53)) := ⟨rfl, rfl, rfl, by decide +kernel, rfl, by decide +kernel, by decide +kernel⟩
theorem ok_nx {f : Addr} {fd : FuncData} (T : Tx mg) (F : FD K "_law_next_word" (top 53) f fd) {f1 : Addr} {fd1 : FuncData} (C1 : Cal P w K mg base CX0 1 "_law_ahead_word" ["_law_reader"] spAhead f1 fd1) : FnOk P w K mg base CX0 2 f fd ["_law_reader"] spNext := by
  obtain ⟨g_law_ahead_word, k_law_ahead_word, b_law_ahead_word, F_law_ahead_word⟩ := C1
  refine F.ok sc_nx (fun vs H Q E h => ?_) (fun cdv A outer s H vs Q E hr h => ?_)
  · obtain ⟨_, _, _, _, rfl, _⟩ := h
    rfl
  · obtain ⟨rd, l, ts, i, rfl, hR, k⟩ := h
    have nd := sc_nx.nd
    refine ⟨_, (pss_cons (ps_set (i := 1) nd rfl (Or.inl rfl) (pe_call F_law_ahead_word (hr.mono (by omega)) rfl g_law_ahead_word k_law_ahead_word b_law_ahead_word .nil pass0 (pa_cons (pv 0) pa_nil)))
        (pss_cons (ps_asg (pe_op op_add (pe_ix (r := rIxL K) ix_list (pv 0) pe_int (fun _ _ => rfl)) pe_int) (pg_sub (pv 0) pe_int set_list))
        (pss_one (ps_ret (pv 1))))), ?_⟩
    refine sq fun U hU => ?_
    walk_at "rd"
    refine ⟨rd, l, ts, i, rfl, hR, hU _ _ ?_⟩
    clear hU
    obtain ⟨e1, e2⟩ := hR
    refine sq fun U hU => ?_
    walk_at "rd"
    refine ⟨_, SqL.of e1, _, atI_nn (by decide) rfl, i, rfl, _, e1, 1, rfl, hU _ _ ?_⟩
    clear hU
    walk_at "rd"
    have lr : l ≠ rd := fun z => by
      rw [z, e1] at e2
      injection e2 with e2
      injection e2 with e2
      cases ts with
      | nil => cases e2
      | cons a b => cases e2
    exact k _ But.put ⟨upd_same, (upd_ne lr).trans e2⟩
def spLQ (K : PySem.W.Frag) : Sp := fun vs H Q _ => ∃ (rd l : Addr) (ts : List Str) (i : Nat), vs = [.ref rd] ∧ (∀ w ∈ ts, smS w = true) ∧ RdR H rd l ts i ∧
  ∀ (x : V) (H' : Hp) (i' : Nat), But rd H H' → RdR H' rd l ts i' → OV K (newp H H') x ((lTest (ts.drop i)).map (·.1)) → (∀ d r', lTest (ts.drop i) = some (d, r') → ts.drop i' = r' ∧ i' ≤ ts.length) → Q x H'
def rqP (K : PySem.W.Frag) (H0 : Hp) (rd l p : Addr) (ts : List Str) (res : Option (PyData × List Str)) (n : Nat) : L2.St → Hp → Prop := fun σ H => ∃ (j : Str) (fs : List PyData) (at' : Nat) (xs : List V) (a b c d e : Option V), res = lLoop (3 - n) j fs (ts.drop at') ∧ But rd H0 H ∧ RdR H rd l ts at' ∧ fs.length = n ∧
  H p = some (.lst xs) ∧ DqAll K (nw H0 p H) xs fs ∧ (j = "" ∨ jw j) ∧ σ = [some (.ref rd), some (.str j), some (.ref p), a, b, c, d, e]
theorem sc_rq : FnScope ["_law_reader", "_law_joint", "_law_found", "_law_turn", "_law_one", "_law_mark", "_law_two", "_law_ahead_here"] ["_law_reader"] (defScope (top 56)) := ⟨rfl, rfl, rfl, by decide +kernel, rfl, by decide +kernel, by decide +kernel⟩
theorem ok_rq {f : Addr} {fd : FuncData} (T : Tx mg) (F : FD K "_law_read_quiz" (top 56) f fd) {f1 f2 f3 f4 : Addr} {fd1 fd2 fd3 fd4 : FuncData} (C1 : Cal P w K mg base CX0 1 "_law_ahead_word" ["_law_reader"] spAhead f1 fd1) (C2 : Cal P w K mg base CX0 2 "_law_next_word" ["_law_reader"] spNext f2 fd2)
    (C3 : Cal P w K mg base CX0 1 "_law_is_sign" ["_law_token"] (spData isLetter K) f3 fd3) (C4 : Cal P w K mg base CX0 2 "_law_is_goal" ["_law_token"] (spData isGoal K) f4 fd4) : FnOk P w K mg base CX0 3 f fd ["_law_reader"] (spLQ K) := by
  obtain ⟨g_law_ahead_word, k_law_ahead_word, b_law_ahead_word, F_law_ahead_word⟩ := C1
  obtain ⟨g_law_next_word, k_law_next_word, b_law_next_word, F_law_next_word⟩ := C2
  obtain ⟨g_law_is_sign, k_law_is_sign, b_law_is_sign, F_law_is_sign⟩ := C3
  obtain ⟨g_law_is_goal, k_law_is_goal, b_law_is_goal, F_law_is_goal⟩ := C4
  refine F.ok sc_rq (fun vs H Q E h => ?_) (fun cdv A outer s H vs Q E hr h => ?_)
  · obtain ⟨_, _, _, _, rfl, _⟩ := h
    rfl
  · obtain ⟨rd, l, ts, i0, rfl, hsm, hR, k⟩ := h
    have nd := sc_rq.nd
    have zl : (400000 : Nat) ≤ sizeLine := by rw [sizeLine_eq]; decide
    have hr0 : ∀ p, H p = none → p ≠ rd := fun p => hR.ne
    have hl0 : ∀ p, H p = none → p ≠ l := fun p => hR.nel
    have smd : ∀ n, smS ((ts.drop n).headD "") = true := fun n => sm_head fun w hw => hsm w (List.mem_of_mem_drop hw)
    refine ⟨_, (pss_cons (ps_par rfl nd (i := 1) (j := 2) rfl rfl (by decide) rfl rfl (pa_cons pe_str (pa_cons (pe_lst pa_nil) pa_nil)) rfl)
        (pss_cons (ps_for (passes_of rfl) rfl (pi_range1 rfl T.b_range (pa_cons pe_int pa_nil)) (pg_name (i := 3) nd rfl (Or.inl rfl)) (pss_cons (ps_par3 rfl nd (i := 4) (j := 5) (l := 6) rfl rfl rfl (by decide) (by decide) (by decide) rfl rfl rfl (pa_cons (pe_call F_law_next_word (hr.mono (by omega)) rfl g_law_next_word k_law_next_word b_law_next_word .nil pass0 (pa_cons (pv 0) pa_nil)) (pa_cons (pe_call F_law_next_word (hr.mono (by omega)) rfl g_law_next_word k_law_next_word b_law_next_word .nil pass0 (pa_cons (pv 0) pa_nil)) (pa_cons (pe_call F_law_next_word (hr.mono (by omega)) rfl g_law_next_word k_law_next_word b_law_next_word .nil pass0 (pa_cons (pv 0) pa_nil)) pa_nil))) rfl)
        (pss_cons (ps_if (PW.pt (pw_or (pt_not (pt_val (pe_call F_law_is_sign (hr.mono (by omega)) rfl g_law_is_sign k_law_is_sign b_law_is_sign .nil pass0 (pa_cons (pv 4) pa_nil)))) (pw_or (pt_cmpR op_notIn_seq (pv 5) (pe_tup (pa_cons pe_str (pa_cons pe_str pa_nil))) rfl) (pw_or1 (pt_not (pt_val (pe_call F_law_is_goal (hr.mono (by omega)) rfl g_law_is_goal k_law_is_goal b_law_is_goal .nil pass0 (pa_cons (pv 6) pa_nil)))))))) (pss_one (ps_ret pe_non)) pss_nil)
        (pss_cons (ps_expr (pe_bm PySem.F.plainAttrs_list PySem.F.slot_list_append PySem.F.type_list_append mt_append (pv 2) (pa_cons (pe_tup (pa_cons (pv 5) (pa_cons (pv 4) (pa_cons (pv 6) pa_nil)))) pa_nil)))
        (pss_cons (ps_set (i := 7) nd rfl (Or.inl rfl) (pe_call F_law_ahead_word (hr.mono (by omega)) rfl g_law_ahead_word k_law_ahead_word b_law_ahead_word .nil pass0 (pa_cons (pv 0) pa_nil)))
        (pss_cons (ps_if (PW.pt (pw_or (pt_cmpR op_notIn_seq (pv 7) (pe_tup (pa_cons pe_str (pa_cons pe_str pa_nil))) rfl) (pw_or (pt_cmpR op_notIn_seq (pv 1) (pe_tup (pa_cons pe_str (pa_cons (pv 7) pa_nil))) rfl) (pw_or1 (pt_cmpR op_eq (pv 3) pe_int (nomark _)))))) (pss_one (ps_ret (pe_tup (pa_cons (pe_ifExp (pt_cmpR op_ne (pv 1) pe_str (nomark _)) (pv 1) pe_str) (pa_cons (pe_callTy call_tuple_of (by rfl) T.b_tuple (by decide +kernel) (pa_cons (pv 2) pa_nil)) pa_nil))))) pss_nil)
        (pss_one (ps_set (i := 1) nd rfl (Or.inl rfl) (pe_call F_law_next_word (hr.mono (by omega)) rfl g_law_next_word k_law_next_word b_law_next_word .nil pass0 (pa_cons (pv 0) pa_nil))))))))))
        (pss_one (ps_ret pe_non)))), ?_⟩
    refine sq fun U hU => ?_
    walk_at "rd"
    refine ⟨by decide, fun p hp => hU _ _ ?_⟩
    clear hU
    have pr := hr0 p hp
    refine sq fun U hU => ?_
    walk_at "rd"
    refine ⟨by decide, by decide, ?_⟩
    refine for_r (rqP K H rd l p ts (lTest (ts.drop i0))) ⟨"", [], i0, [], none, none, none, none, none, rfl, But.same (same_new hp), hR.up (same_new hp), rfl, upd_same, .nil, .inl rfl, rfl⟩ ?_ ?_
    · rintro n σ H2 hn ⟨j, fs, at', xs, a, b, c, d, e, eres, b2, r2, fl, e2, D2, hj, rfl⟩
      have en : 3 - n = (2 - n) + 1 := by omega
      rw [en] at eres
      have xl := D2.len
      simp only [gName_, List.set_cons_succ, List.set_cons_zero]
      refine sq fun V2 hV => ?_
      walk_at "rd"
      refine ⟨rd, l, ts, at', rfl, r2, fun H3 b3 r3 => ?_⟩
      refine ⟨rd, l, ts, at' + 1, rfl, r3, fun H4 b4 r4 => ?_⟩
      refine ⟨rd, l, ts, at' + 2, rfl, r4, fun H5 b5 r5 => ?_⟩
      refine hV _ _ ?_
      clear hV
      have b25 := b3.trans (b4.trans b5)
      have bb := b2.trans b25
      have e5 := b25 _ _ pr e2
      have t1 : (ts.drop at').tail = ts.drop (at' + 1) := List.tail_drop
      have t2 : (ts.drop (at' + 1)).tail = ts.drop (at' + 2) := List.tail_drop
      have t3 : (ts.drop (at' + 2)).tail = ts.drop (at' + 3) := List.tail_drop
      have t4 : (ts.drop (at' + 3)).tail = ts.drop (at' + 4) := List.tail_drop
      have ec : comp3 (ts.drop at') = compOf ((ts.drop at').headD "") ((ts.drop (at' + 1)).headD "") ((ts.drop (at' + 2)).headD "") := by
        unfold comp3
        rw [t1, t2]
      have lb : (ts.drop (at' + 2)).headD "" ≠ "" → at' + 3 ≤ ts.length := fun z => by
        cases q : ts.drop (at' + 2) with
        | nil => rw [q] at z; exact absurd rfl z
        | cons _ _ =>
          have := congrArg List.length q
          rw [List.length_drop, List.length_cons] at this
          omega
      have ma := smd at'
      have mm := smd (at' + 1)
      have mb := smd (at' + 2)
      generalize (ts.drop at').headD "" = wa at *
      generalize (ts.drop (at' + 1)).headD "" = wm at *
      generalize (ts.drop (at' + 2)).headD "" = wb at *
      rw [lLoop, ec, t1, t2, t3, t4] at eres
      clear r2 r3 r4 b3 b4 b5
      refine sq fun V2 hV => ?_
      walk_at "rd"
      have bad : ∀ H', Same H5 H' → ¬ (isLetterS wa = true ∧ (wm = "=" ∨ wm = "!=") ∧ isGoal (.str wb) = true) → Q .non H' := fun H' s hn' => by
        have e0 : compOf wa wm wb = none := if_neg hn'
        rw [e0] at eres
        refine k _ _ _ (bb.trans (But.same s)) (r5.up s) ?_ (fun d r' z => by rw [eres] at z; cases z)
        rw [eres]
        rfl
      refine ⟨_, .str wa, rfl, .str wa ma, fun H6 s6 => ?_⟩
      walk_at "rd"
      by_cases ha : isLetterS wa = true
      · rw [if_neg (by rw [show isLetter (.str wa) = true from ha]; decide)]
        refine ⟨by decide, fun q hq => notIn2 upd_same ?_⟩
        have s7 : Same H6 (upd H6 q (.tup [.str "=", .str "!="])) := same_new hq
        by_cases hs : wm = "=" ∨ wm = "!="
        · refine ⟨false, congrArg V.bl (by rw [Bool.not_eq_false', Bool.or_eq_true, decide_eq_true_eq, decide_eq_true_eq]; exact hs), ?_⟩
          rw [if_neg (by decide)]
          refine ⟨_, .str wb, rfl, .str wb mb, fun H8 s8 => ?_⟩
          walk_at "rd"
          by_cases hb : isGoal (.str wb) = true
          · rw [if_neg (by rw [hb]; decide)]
            refine hV _ _ ?_
            clear hV
            have e0 : compOf wa wm wb = some (.tuple [.str wm, .str wa, .str wb]) := if_pos ⟨ha, hs, hb⟩
            rw [e0] at eres
            have l3 := lb (goal_ne hb)
            have ss := s6.trans (s7.trans s8)
            have b8 := bb.trans (But.same (u := rd) ss)
            have r8 := r5.up ss
            have e8 := ss _ _ e5
            have D8 := D2.up (nw_but (p := p) hr0 fun a o h1 h2 e => ss _ _ (b25 a o h1 e))
            clear bad s6 s7 s8 hq bb r5 e5 e2 D2 b2 b25
            refine sq fun V2 hV => ?_
            walk_at "rd"
            refine ⟨.inl ⟨rfl, _, SqL.of e8⟩, by decide, fun p1 hp1 => ?_⟩
            have s9 : Same H8 (upd H8 p1 (.tup [.str wm, .str wa, .str wb])) := same_new hp1
            have p10 := bnone b8 hp1 (r8.ne hp1)
            have n1 : p1 ≠ p := (ne_of_none e8 hp1).symm
            have D9 : DqAll K (nw H p (upd (upd H8 p1 (.tup [.str wm, .str wa, .str wb])) p (.lst (xs ++ [.ref p1])))) (xs ++ [.ref p1]) (fs ++ [.tuple [.str wm, .str wa, .str wb]]) := by
              refine (D8.up (nw_but hr0 fun a o h1 h2 e => ?_)).append (.cons (tup3 ?_ mm ma mb) .nil)
              · rw [upd_ne h2]
                exact s9 a o e
              · rw [nw_at n1 p10, upd_ne n1]
                exact upd_same
            refine ⟨p, xs, _, rfl, rfl, s9 _ _ e8, by omega, hV _ _ ?_⟩
            clear hV
            have b9 : But rd H (upd (upd H8 p1 (.tup [.str wm, .str wa, .str wb])) p (.lst (xs ++ [.ref p1]))) := but_new (b8.trans (But.same s9)) hp
            have r9 := (r8.up s9).put (o := .lst (xs ++ [.ref p1])) pr (hl0 p hp)
            have e9 : (upd (upd H8 p1 (.tup [.str wm, .str wa, .str wb])) p (.lst (xs ++ [.ref p1]))) p = some (.lst (xs ++ [.ref p1])) := upd_same
            generalize (upd (upd H8 p1 (HO.tup [V.str wm, V.str wa, V.str wb])) p (HO.lst (xs ++ [V.ref p1]))) = H9 at b9 r9 e9 D9 ⊢
            clear s9 hp1 b8 r8 e8 D8
            refine sq fun V2 hV => ?_
            walk_at "rd"
            refine ⟨rd, l, ts, at' + 3, rfl, r9, hV _ _ ?_⟩
            clear hV
            have mk := smd (at' + 3)
            obtain ⟨wk, wkx⟩ : ∃ wk, (ts.drop (at' + 3)).headD "" = wk := ⟨_, rfl⟩
            rw [wkx] at mk eres ⊢
            refine sq fun V2 hV => ?_
            have sj : smS (if j = "" then "and" else j) = true := by
              rcases hj with rfl | rfl | rfl <;> decide +kernel
            -- the tree told
            have fin : ∀ H10, Same H9 H10 → (¬ jw wk ∨ ¬ (j = "" ∨ j = wk) ∨ 2 - n = 0) → ∀ l' q, H10 l' = none → upd H10 l' (.tup (xs ++ [.ref p1])) q = none → Q (.ref q) (upd (upd H10 l' (.tup (xs ++ [.ref p1]))) q (.tup [.str (if j = "" then "and" else j), .ref l'])) := fun H10 s10 hc l' q hl' hq => by
              have er : lTest (ts.drop i0) = some (.tuple [.str (if j = "" then "and" else j), .tuple (fs ++ [.tuple [.str wm, .str wa, .str wb]])], ts.drop (at' + 3)) := eres.trans (if_pos hc)
              have s4 : Same H10 (upd H10 l' (.tup (xs ++ [.ref p1]))) := same_new hl'
              have s5 : Same (upd H10 l' (.tup (xs ++ [.ref p1]))) (upd (upd H10 l' (.tup (xs ++ [.ref p1]))) q (.tup [.str (if j = "" then "and" else j), .ref l'])) := same_new hq
              have b10 := b9.trans (But.same (u := rd) s10)
              have r10 := r9.up s10
              have l0 := bnone b10 hl' (r10.ne hl')
              have q0 := bnone (b10.trans (But.same s4)) hq ((r10.up s4).ne hq)
              refine k _ _ (at' + 3) (b10.trans (But.same (s4.trans s5))) (r10.up (s4.trans s5)) ?_ (fun d r' e => by rw [er] at e; cases e; exact ⟨rfl, l3⟩)
              rw [er]
              refine Dq.tup ((newp_at q0).trans upd_same) (.cons (.str _ sj) (.cons (.tup ((newp_at l0).trans (s5 _ _ upd_same)) (D9.up fun a o e => ?_)) .nil))
              obtain ⟨h1, h2, h3⟩ := nw_some e
              rw [newp_at h2]
              exact s5 _ _ (s4 _ _ (s10 _ _ h3))
            have told : ∀ H10, Same H9 H10 → (¬ jw wk ∨ ¬ (j = "" ∨ j = wk) ∨ 2 - n = 0) → (if ¬ j = "" then ∃ ys, SqL K H10 p ys ∧ (∀ l', H10 l' = none → 2 ≤ sizeLine ∧ ∀ q, upd H10 l' (.tup ys) q = none → Q (.ref q) (upd (upd H10 l' (.tup ys)) q (.tup [.str j, .ref l']))) ∨ SqT K H10 p ys ∧ (2 ≤ sizeLine ∧ ∀ q, H10 q = none → Q (.ref q) (upd H10 q (.tup [.str j, .ref p])))
                else ∃ ys, SqL K H10 p ys ∧ (∀ l', H10 l' = none → 2 ≤ sizeLine ∧ ∀ q, upd H10 l' (.tup ys) q = none → Q (.ref q) (upd (upd H10 l' (.tup ys)) q (.tup [.str "and", .ref l']))) ∨ SqT K H10 p ys ∧ (2 ≤ sizeLine ∧ ∀ q, H10 q = none → Q (.ref q) (upd H10 q (.tup [.str "and", .ref p])))) := fun H10 s10 hc => by
              have fin' := fin H10 s10 hc
              by_cases dz : j = ""
              · rw [if_neg (by simp [dz])]
                rw [if_pos dz] at fin'
                exact ⟨_, .inl ⟨SqL.of (s10 _ _ e9), fun l' hl' => ⟨by decide, fun q hq => fin' l' q hl' hq⟩⟩⟩
              · rw [if_pos dz]
                rw [if_neg dz] at fin'
                exact ⟨_, .inl ⟨SqL.of (s10 _ _ e9), fun l' hl' => ⟨by decide, fun q hq => fin' l' q hl' hq⟩⟩⟩
            clear fin
            walk_at "rd"
            refine ⟨by decide, fun q1 hq1 => notIn2 upd_same ?_⟩
            have s10 : Same H9 (upd H9 q1 (.tup [.str "and", .str "or"])) := same_new hq1
            by_cases hk : jw wk
            · refine ⟨false, congrArg V.bl (by rw [Bool.not_eq_false', Bool.or_eq_true, decide_eq_true_eq, decide_eq_true_eq]; exact hk), ?_⟩
              rw [if_neg (by decide)]
              refine ⟨by decide, fun q2 hq2 => notIn2 upd_same ?_⟩
              have s11 := s10.trans (same_new (o := .tup [.str "", .str wk]) hq2)
              by_cases hjk : j = "" ∨ j = wk
              · refine ⟨false, congrArg V.bl (by rw [Bool.not_eq_false', Bool.or_eq_true, decide_eq_true_eq, decide_eq_true_eq]; exact hjk), ?_⟩
                rw [if_neg (by decide)]
                by_cases n2 : n = 2
                · rw [if_pos (by omega)]
                  exact told _ s11 (.inr (.inr (by omega)))
                · rw [if_neg (by omega)]
                  refine hV _ _ ?_
                  clear hV
                  walk_at "rd"
                  have r11 := r9.up s11
                  have e11 := s11 _ _ e9
                  have D11 := D9.up (nw_but (p := p) hr0 fun a o _ _ e => s11 a o e)
                  refine ⟨rd, l, ts, at' + 3, rfl, r11, fun H12 b12 r12 => ?_⟩
                  rw [wkx]
                  have er : lTest (ts.drop i0) = lLoop (3 - (n + 1)) wk (fs ++ [.tuple [.str wm, .str wa, .str wb]]) (ts.drop (at' + 3 + 1)) := by
                    rw [show 3 - (n + 1) = 2 - n by omega]
                    refine eres.trans (if_neg fun z => ?_)
                    rcases z with z | z | z
                    · exact z hk
                    · exact z hjk
                    · omega
                  exact ⟨wk, _, at' + 3 + 1, _, _, _, _, _, _, er, b9.trans ((But.same s11).trans b12), r12, by rw [List.length_append, fl]; rfl, b12 _ _ pr e11, D11.up (nw_but hr0 fun a o h1 h2 e => b12 a o h1 e), .inr hk, rfl⟩
              · refine ⟨true, congrArg V.bl (by rw [Bool.not_eq_true', Bool.or_eq_false_iff, decide_eq_false_iff_not, decide_eq_false_iff_not]; exact ⟨fun z => hjk (.inl z), fun z => hjk (.inr z)⟩), ?_⟩
                rw [if_pos rfl]
                exact told _ s11 (.inr (.inl hjk))
            · refine ⟨true, congrArg V.bl (by rw [Bool.not_eq_true', Bool.or_eq_false_iff, decide_eq_false_iff_not, decide_eq_false_iff_not]; exact ⟨fun z => hk (.inl z), fun z => hk (.inr z)⟩), ?_⟩
              rw [if_pos rfl]
              exact told _ s10 (.inl hk)
          · rw [if_pos (by rw [Bool.eq_false_iff.mpr hb])]
            exact bad _ (s6.trans (s7.trans s8)) (fun z => hb z.2.2)
        · refine ⟨true, congrArg V.bl (by rw [Bool.not_eq_true', Bool.or_eq_false_iff, decide_eq_false_iff_not, decide_eq_false_iff_not]; exact ⟨fun z => hs (.inl z), fun z => hs (.inr z)⟩), ?_⟩
          rw [if_pos rfl]
          exact bad _ (s6.trans s7) (fun z => hs z.2.1)
      · rw [if_pos (by rw [show isLetter (.str wa) = false from Bool.eq_false_iff.mpr ha])]
        exact bad _ s6 (fun z => ha z.1)
    · rintro σ H2 ⟨j, fs, at', xs, a, b, c, d, e, eres, b2, r2, fl, e2, D2, hj, rfl⟩
      refine hU _ _ ?_
      walk_at "rd"
      have e0 : lTest (ts.drop i0) = none := eres
      refine k _ _ _ b2 r2 ?_ (fun d r' z => by rw [e0] at z; cases z)
      rw [e0]
      rfl
end
end K40

set_option Elab.async false
set_option linter.all false
set_option maxRecDepth 100000
set_option maxHeartbeats 4000000
namespace K40
open PySem PySem.Spec PyProof.Rows L2 Rd Dt Dq Pk TL
local macro_rules | `(tactic| walk_at "rd") => `(tactic| try simp only [↓tFld_, ↓sFld_, ↓tVar_, ↓tC_, ↓tM1, ↓tDNewK_, ↓tOp_, ↓tUn_, ↓rI_, ↓rI0_, ↓rU_, ↓eq_ii, ↓ne_ii, ↓eq_ss, ↓ne_ss, ↓eq_bb, ↓ne_bb, ↓tAndV_, ↓tOrV_, ↓tNotV_, ↓tIf_, ↓tTest_, ↓tB_, ↓tAnd_, ↓tOr_, ↓tNot_, ↓tChain_, ↓tNil_, ↓tCons_, ↓tTup_, ↓tLst_, ↓tCB_, ↓tCall_, ↓tSeq_, ↓tNext_, ↓tRet_, ↓tRetN_, ↓tDrop_, ↓tBreak_, ↓tNever_, ↓tIfS_, ↓tAsg_, ↓gName_, ↓gTup_, ↓gCons_, ↓gNil_, ↓gSub_, ↓tPar_, ↓tPar3_, ↓tSl_, ↓tNoPart_, ↓tPart_, ↓tBM_, ↓tFor_range1, ↓tFor_range2, ↓tFor_list, ↓tFor_tup, L2.start, List.headD_cons, List.headD_nil, List.tail_cons, List.map_cons, List.map_nil, List.length_cons, List.length_nil, List.replicate, List.append_nil, List.nil_append, List.cons_append, List.getElem?_cons_zero, List.getElem?_cons_succ, List.set_cons_zero, List.set_cons_succ, Option.some.injEq, V.int.injEq, V.bl.injEq, V.str.injEq, V.ref.injEq, exists_eq_left, exists_eq_left', exists_eq_right, exists_eq, exists_and_left, and_true, true_and, decide_eq_true_eq, Nat.reduceAdd, Nat.reduceSub, Nat.add_zero, Nat.zero_add, List.cons.injEq, Bool.not_eq_true', decide_eq_false_iff_not, eq_self, reduceCtorEq, Bool.false_eq_true, if_true, if_false, ite_true, ite_false, and_self, ↓tLc_range1, ↓tLc_range2, ↓tLc_list, ↓tLc_tup, ↓tYes_, wipe0, wipe1, ↓tCallS_, ↓rIxL_, ↓rIxT_, ↓rSlL_, ↓rCat_, ↓rSetL_, ↓rRep_, ↓rGcd_, ↓tCallK_, ↓gUnl_, ↓tRaise_, decide_true, decide_false, not_true_eq_false, not_false_eq_true, false_and, or_false, false_or, and_false, and_assoc, exists_const, forall_const, forall_eq'])

section
variable {P : Program} {w : World} {K : PySem.W.Frag} {mg : Str → Option Value} {base : Heap}
/-- a list of texts beside one of the same -/
def rNeSS (K : PySem.W.Frag) : R2 := fun x y H Q => ∃ (a b : Addr) (ss : List Str), x = .ref a ∧ y = .ref b ∧ SqL K H a (ss.map V.str) ∧ SqL K H b (ss.map V.str) ∧ Q (.bl false) H
theorem op_neSS {X : Cx} (hu : X.A.units + 64 < cLine) : OpR X (compareOp .NotEq) (rNeSS X.K) := by
  intro pins s σ H x y v u Q I rx ry h
  obtain ⟨a, b, ss, rfl, rfl, ha, hb, q⟩ := h
  cases rx
  cases ry
  obtain ⟨its, rv, tu, _⟩ := I.list ha
  obtain ⟨its2, rv2, tu2, _⟩ := I.list hb
  have l1 := rv.length
  have l2 := rv2.length
  rw [List.length_map] at l1 l2
  have at_ : ∀ (us : List Value), Vals (ss.map V.str) us → ∀ (j : Nat) (h : j < us.toArray.size) (z : Str), ss[j]? = some z → ∃ t : PySem.Tok, us.toArray[j] = .str z t := fun us r j h z hz => by
    obtain ⟨u, h1, h2⟩ := r.get (i := j) (x := V.str z) (by rw [List.getElem?_map, hz]; rfl)
    obtain ⟨t, rfl⟩ := h2
    have h' : j < us.length := by simpa using h
    rw [List.getElem?_eq_getElem h'] at h1
    exact ⟨t, by simpa using Option.some.inj h1⟩
  refine SeqAt.RcNeAt.lists (e := fun _ => true) tu.isList tu2.isList (by rw [List.size_toArray, List.size_toArray]; omega) (by omega) (fun j h1 h2 => ?_) X.prog X.w _ _ ?_
  · have hj : j < ss.length := by have : j < its.length := by simpa using h1
                                  omega
    have hz : ss[j]? = some (ss[j]'hj) := List.getElem?_eq_getElem hj
    obtain ⟨t, e1⟩ := at_ its rv j h1 _ hz
    obtain ⟨t2, e2⟩ := at_ its2 rv2 j h2 _ hz
    rw [e1, e2]
    have := SeqAt.EqAt.str_str (A := X.A.in1) (s := s) (ss[j]'hj) t (ss[j]'hj) t2
    rw [beq_self_eq_true] at this
    exact this
  · refine ⟨.bl false, H, I, ?_, q⟩
    show Value.bool _ = Value.bool _
    congr 1
    simp
/-- the same, == -/
def rEqSS (K : PySem.W.Frag) : R2 := fun x y H Q => ∃ (a b : Addr) (ss : List Str), x = .ref a ∧ y = .ref b ∧ SqL K H a (ss.map V.str) ∧ SqL K H b (ss.map V.str) ∧ Q (.bl true) H
theorem op_eqSS {X : Cx} (hu : X.A.units + 64 < cLine) : OpR X (compareOp .Eq) (rEqSS X.K) := by
  intro pins s σ H x y v u Q I rx ry h
  obtain ⟨a, b, ss, rfl, rfl, ha, hb, q⟩ := h
  cases rx
  cases ry
  obtain ⟨its, rv, tu, _⟩ := I.list ha
  obtain ⟨its2, rv2, tu2, _⟩ := I.list hb
  have l1 := rv.length
  have l2 := rv2.length
  rw [List.length_map] at l1 l2
  have at_ : ∀ (us : List Value), Vals (ss.map V.str) us → ∀ (j : Nat) (h : j < us.toArray.size) (z : Str), ss[j]? = some z → ∃ t : PySem.Tok, us.toArray[j] = .str z t := fun us r j h z hz => by
    obtain ⟨u, h1, h2⟩ := r.get (i := j) (x := V.str z) (by rw [List.getElem?_map, hz]; rfl)
    obtain ⟨t, rfl⟩ := h2
    have h' : j < us.length := by simpa using h
    rw [List.getElem?_eq_getElem h'] at h1
    exact ⟨t, by simpa using Option.some.inj h1⟩
  refine SeqAt.eq_listAt (e := fun _ => true) tu.isList tu2.isList (by rw [List.size_toArray, List.size_toArray]; omega) (by omega) (fun j h1 h2 => ?_) ?_
  · have hj : j < ss.length := by have : j < its.length := by simpa using h1
                                  omega
    have hz : ss[j]? = some (ss[j]'hj) := List.getElem?_eq_getElem hj
    obtain ⟨t, e1⟩ := at_ its rv j h1 _ hz
    obtain ⟨t2, e2⟩ := at_ its2 rv2 j h2 _ hz
    rw [e1, e2]
    have := SeqAt.EqAt.str_str (A := X.A.in1) (s := s) (ss[j]'hj) t (ss[j]'hj) t2
    rw [beq_self_eq_true] at this
    exact this
  · refine ⟨.bl true, H, I, ?_, q⟩
    show Value.bool _ = Value.bool _
    congr 1
    simp
theorem comp_wt {d : PyData} (h : isComp d = true) : wt d ≤ 110 ∧ d.depth ≤ 1 := by
  obtain ⟨sg, a, b, rfl, hs, ha, hb⟩ := comp_cases h
  obtain ⟨a', ea, ta⟩ := letter_tok (d := .str a) ha
  cases ea
  obtain ⟨b', eb, tb⟩ := goal_tok hb
  cases eb
  have hl : sg.length ≤ 2 := by rcases hs with rfl | rfl <;> decide
  have l1 := ta.len
  have l2 := tb.len
  refine ⟨?_, by simp [PyData.depth, PyData.depthAll]⟩
  simp only [wt, wtAll]
  omega
theorem comps_wt : ∀ ds : List PyData, (∀ d ∈ ds, isComp d = true) → wtAll ds ≤ 112 * ds.length ∧ PyData.depthAll ds ≤ 1
  | [], _ => ⟨by simp [wtAll], by simp [PyData.depthAll]⟩
  | d :: ds, h => by
    have h1 := comp_wt (h d List.mem_cons_self)
    have h2 := comps_wt ds fun x hx => h x (List.mem_cons_of_mem _ hx)
    rw [wtAll, PyData.depthAll, List.length_cons]
    omega
theorem test_wt {d : PyData} (h : isTest d = true) : wt d ≤ 1000 ∧ d.depth ≤ 3 := by
  obtain ⟨k, cs, rfl, hk, hl, hc⟩ := test_cases h
  have h1 := comps_wt cs hc
  have h2 : k.length ≤ 3 := by rcases hk with rfl | rfl <;> decide
  have e : wt (.tuple [.str k, .tuple cs]) = 3 + (2 + (10 * k.length + 12) + (2 + (3 + wtAll cs) + 0)) := by simp only [wt, wtAll]
  have e2 : (PyData.tuple [.str k, .tuple cs]).depth = max 0 (max (PyData.depthAll cs + 1) 0) + 1 := by simp only [PyData.depth, PyData.depthAll]
  rw [e, e2]
  omega
def spQR (K : PySem.W.Frag) : Sp := fun vs H Q _ => ∃ (s : Str), vs = [.str s] ∧ smS s = true ∧ ∀ (x : V) (H' : Hp), Same H H' → OV K H' x (lOf s) → Q x H'
theorem sc_qr : FnScope ["_law_said", "_law_reader", "_law_found"] ["_law_said"] (defScope (top 61)) := ⟨rfl, rfl, rfl, by decide +kernel, rfl, by decide +kernel, by decide +kernel⟩
theorem ok_qr {f : Addr} {fd : FuncData} (T : Tx mg) (F : FD K "_law_quiz_read" (top 61) f fd) {f1 : Addr} {fd1 : FuncData} (C1 : Cal P w K mg base CX0 3 "_law_read_quiz" ["_law_reader"] (spLQ K) f1 fd1) : FnOk P w K mg base CX0 4 f fd ["_law_said"] (spQR K) := by
  obtain ⟨g_law_read_quiz, k_law_read_quiz, b_law_read_quiz, F_law_read_quiz⟩ := C1
  refine F.ok sc_qr (fun vs H Q E h => ?_) (fun cdv A outer s H vs Q E hr h => ?_)
  · obtain ⟨_, rfl, _⟩ := h
    rfl
  · obtain ⟨z, rfl, hs, k⟩ := h
    have hl : z.length ≤ 10000 := of_decide_eq_true (Bool.and_eq_true_iff.mp hs).1
    have zl : (400000 : Nat) ≤ sizeLine := by rw [sizeLine_eq]; decide
    obtain ⟨t1, t2⟩ := split_len z
    have sm : ∀ w ∈ Txt.split z " ", smS w = true := fun w hw => sm_sub hs (t2 w hw).1 (t2 w hw).2
    have el : lOf z = match lTest (Txt.split z " ") with
        | some (d, []) => some d
        | _ => none := rfl
    have nd := sc_qr.nd
    refine ⟨_, (pss_cons (ps_set (i := 1) nd rfl (Or.inl rfl) (pe_lst (pa_cons (pe_bm PySem.F.plainAttrs_str PySem.F.slot_str_split PySem.F.type_str_split mt_split (pv 0) (pa_cons pe_str pa_nil)) (pa_cons pe_int (pa_cons pe_int pa_nil)))))
        (pss_cons (ps_set (i := 2) nd rfl (Or.inl rfl) (pe_call F_law_read_quiz (hr.mono (by omega)) rfl g_law_read_quiz k_law_read_quiz b_law_read_quiz .nil pass0 (pa_cons (pv 1) pa_nil)))
        (pss_one (ps_ret (pe_ifExp (PW.pt (pw_and (pt_cmpR op_notN (pv 2) pe_non (nomark _)) (pw_and1 (pt_cmpR op_eq (pe_ix (r := rIxL K) ix_list (pv 1) pe_int (fun _ _ => rfl)) (pe_callB call_len_seq (by rfl) T.b_len PySem.boot_len (pa_cons (pe_ix (r := rIxL K) ix_list (pv 1) pe_int (fun _ _ => rfl)) pa_nil)) (nomark _))))) (pv 2) pe_non))))), ?_⟩
    refine sq fun U hU => ?_
    walk_at "rd"
    refine ⟨rfl, by decide, by omega, fun l hl' => ⟨by decide, fun rd hrd => hU _ _ ?_⟩⟩
    clear hU
    have s1 : Same H (upd H l (.lst ((Txt.split z " ").map V.str))) := same_new hl'
    have s2 : Same (upd H l (.lst ((Txt.split z " ").map V.str))) (upd (upd H l (.lst ((Txt.split z " ").map V.str))) rd (.lst [.ref l, .int 0, .int 0])) := same_new hrd
    have r2 : RdR (upd (upd H l (.lst ((Txt.split z " ").map V.str))) rd (.lst [.ref l, .int 0, .int 0])) rd l (Txt.split z " ") 0 := ⟨upd_same, s2 _ _ upd_same⟩
    have n0 : H rd = none := by
      cases e : H rd with
      | none => rfl
      | some o => rw [s1 _ _ e] at hrd; cases hrd
    refine sq fun U hU => ?_
    walk_at "rd"
    refine ⟨rd, l, _, 0, rfl, sm, r2, fun x H3 i' b3 r3 hx hres => hU _ _ ?_⟩
    clear hU
    have s3 : Same H H3 := fun b o e => b3 b o (ne_of_none e n0) (s2 _ _ (s1 _ _ e))
    rw [List.drop_zero] at hx hres
    walk_at "rd"
    cases e : lTest (Txt.split z " ") with
    | none =>
      rw [e] at hx el
      have ex : x = .non := hx
      subst ex
      rw [if_neg (by simp)]
      exact k _ H3 s3 (by rw [el]; rfl)
    | some dr =>
      obtain ⟨d, r'⟩ := dr
      rw [e] at hx el
      obtain ⟨hr', hi'⟩ := hres d r' e
      obtain ⟨k', c', cs', ed, _⟩ := lLoop_some _ _ _ _ _ _ (.inl rfl) e
      obtain ⟨a, rfl⟩ : ∃ a, x = .ref a := by
        rw [ed] at hx
        exact dq_ref hx
      rw [if_pos (by simp)]
      refine ⟨_, SqL.of r3.1, _, atI_nn (by decide) rfl, _, SqL.of r3.1, _, atI_nn (by decide) rfl, ?_⟩
      walk_at "rd"
      refine ⟨_, .inl (SqL.of r3.2), ?_⟩
      walk_at "rd"
      rw [List.length_map]
      have hiff : (i' : Int) = ((Txt.split z " ").length : Int) ↔ r' = [] := by
        rw [← hr', List.drop_eq_nil_iff]
        omega
      by_cases q : r' = []
      · rw [if_pos (hiff.mpr q)]
        subst q
        exact k _ H3 s3 (by rw [el]; exact Dq.up newp_sub hx)
      · rw [if_neg (fun z => q (hiff.mp z))]
        refine k _ H3 s3 ?_
        rw [el]
        cases r' with
        | nil => exact absurd rfl q
        | cons _ _ => rfl
def spRef (K : PySem.W.Frag) : Sp := fun vs H Q _ => ∃ (x : V) (d : PyData), vs = [x] ∧ Dq K H x d ∧ testOfD d = none ∧ d.depth ≤ 50 ∧ wt d ≤ 1000000 ∧ ∀ H', Same H H' → Q (.bl true) H'
def spJd (K : PySem.W.Frag) : Sp := fun vs H Q _ => ∃ (s : Str), vs = [.str s] ∧ smS s = true ∧ ∀ H', Same H H' → Q (.bl true) H'
end
end K40

set_option Elab.async false
set_option linter.all false
set_option maxRecDepth 100000
set_option maxHeartbeats 2000000
/-! behind x = e.m("c") a token is out: what str.replace with written texts wants -/
namespace Rp
open PySem PySem.Spec PyProof.Rows L2 Rd CwR
section
variable {X : Cx} {o : Expr} {to : TE} {name : Str} {apos cpos cp pos pos' : Pos} {T id : String} {r : V → List V → Hp → VK → Prop} {i j : Nat} {x c : Str} {rest : List Stmt} {u : TS}
theorem pss_bmC (hN : X.N.Nodup) (hi : X.N[i]? = some x) (hx : Loc X.env.scope x) (pa : PlainAttrs T) (slot : Slot T name id) (hty : typeOf (.builtin id) = pure (.type "method_descriptor")) (hm : MtR X id r) (ho : PE X o to) (h2 : PSsT X rest u)
    (hs : swapsWith (.Call (.Attribute o name apos) [.Constant (.str c) j cp] [] cpos) (some (.Name x pos')) pos.line X.env = pure false := by rfl)
    (hf : X.fn x = true ∨ X.env.scope.names.lookup x = some .local := by first | exact .inl rfl | exact .inr rfl | assumption)
    (hbase : attributeBase o name X.env (eval o X.env) = eval o X.env := by rfl)
    (hfew : ((backTo cpos (starEach [.Constant (.str c) j cp] X.env)).all (fun x => !x.1) && (backToKw cpos (keywordEach [] X.env)).all (fun x => x.1.isSome)
      && decide (([.Constant (.str c) j cp] : List Expr).length + ([] : List Keyword).length + (if ([] : List Keyword).isEmpty then 0 else 1) < 30)) = true := by rfl)
    (hline : (apos.endLine == cpos.line) = true := by rfl) (hst : starEach [.Constant (.str c) j cp] X.env = [(false, eval (.Constant (.str c) j cp) X.env)] := by rfl) :
    PSs X (.Assign [.Name x pos'] (.Call (.Attribute o name apos) [.Constant (.str c) j cp] [] cpos) pos :: rest) (tSeq (tAsg (tBM X.K T r to (tCons (tC (.str c)) tNil)) (gName i)) u) := by
  refine ⟨fun pins s σ H D I h => ?_⟩
  refine wpAny_execs_cons (wpAny_Assign_Name (wpAny_Call_method_late hbase hfew hline rfl (thn (ho.run pins s σ H _ I h) fun v s1 ⟨y, H1, I1, r1, ty, q1⟩ => ?_)) hs)
  obtain ⟨h1, h3⟩ := tyV_is I1 r1 ty
  refine ⟨T, id, pa, slot, hty, h1, h3, ?_⟩
  rw [hst]
  refine Calls.callWith_builtin rfl (Calls.evalArgs_plain ?_)
  refine Calls.spliced_cons (Calls.Constant_str (k := j) (pos := cp) (Calls.spliced_nil ?_))
  refine wpAny_mono (PySem.wpAny_toks (hm pins { s1 with toks := s1.toks + 1 } σ H1 y [.str c] v [.str c s1.toks] _ (I1.tok _) r1 (.cons ⟨_, rfl⟩ .nil) q1)) (fun w s2 q => ?_) (fun _ _ z => z.2)
  obtain ⟨hk, z, H2, I2, r2, q2⟩ := q
  refine wpAny_mono (PySem.wpAny_toks (store_ok (v := z) (u := w) (Q := fun _ s3 => Inv X pins (σ.set i (some z)) H2 s3) I2 hN hi hx r2 (fun _ I3 => I3) hf)) (fun _ s3 q => ?_) fun _ _ z => z.2
  have hk2 : s2.toks ≤ s3.toks := q.1
  have hk' : s1.toks + 1 ≤ s2.toks := hk
  exact h2 pins s3 _ H2 D (by omega) q.2 q2
theorem pst_asg {tg e : Expr} {te : TE} {g : TG} (he : PET X e te) (hg : PG X tg g) (hs : swapsWithSole [tg] e pos.line X.env = pure false := by rfl) (hw : swappedStores [tg] e X.env = pure none := by rfl)
    (h1 : (assignEach [tg] X.env).map (·.2) = [assign tg X.env] := by rfl) : PST X (.Assign [tg] e pos) (tAsg te g) := by
  intro pins s σ H D h0 I h
  refine wpAny_Assign_stores (thn (he pins s σ H _ h0 I h) fun v s1 ⟨x, H1, I1, r1, q1⟩ => ?_) hs hw
  rw [h1]
  exact thn (hg.run pins s1 σ H1 x v _ I1 r1 q1) fun _ s2 q => q
theorem tReplC_ {y z : Str} {σ : L2.St} {H : Hp} {Q : VK} : tReplC to y z σ H Q = to σ H fun v H1 => ∃ x, v = .str x ∧ x.length + (x.length + 1) * z.length ≤ 16777216 ∧ Q (.str (Txt.replace x y z)) H1 := rfl
end
end Rp

set_option Elab.async false
set_option linter.all false
set_option maxRecDepth 100000
set_option maxHeartbeats 4000000
namespace K40
open PySem PySem.Spec PyProof.Rows L2 Rd Dt Dq Pk TL
local macro_rules | `(tactic| walk_at "rd") => `(tactic| try simp only [↓Rp.tReplC_, ↓tFld_, ↓sFld_, ↓tVar_, ↓tC_, ↓tM1, ↓tDNewK_, ↓tOp_, ↓tUn_, ↓rI_, ↓rI0_, ↓rU_, ↓eq_ii, ↓ne_ii, ↓eq_ss, ↓ne_ss, ↓eq_bb, ↓ne_bb, ↓tAndV_, ↓tOrV_, ↓tNotV_, ↓tIf_, ↓tTest_, ↓tB_, ↓tAnd_, ↓tOr_, ↓tNot_, ↓tChain_, ↓tNil_, ↓tCons_, ↓tTup_, ↓tLst_, ↓tCB_, ↓tCall_, ↓tSeq_, ↓tNext_, ↓tRet_, ↓tRetN_, ↓tDrop_, ↓tBreak_, ↓tNever_, ↓tIfS_, ↓tAsg_, ↓gName_, ↓gTup_, ↓gCons_, ↓gNil_, ↓gSub_, ↓tPar_, ↓tPar3_, ↓tSl_, ↓tNoPart_, ↓tPart_, ↓tBM_, ↓tFor_range1, ↓tFor_range2, ↓tFor_list, ↓tFor_tup, L2.start, List.headD_cons, List.headD_nil, List.tail_cons, List.map_cons, List.map_nil, List.length_cons, List.length_nil, List.replicate, List.append_nil, List.nil_append, List.cons_append, List.getElem?_cons_zero, List.getElem?_cons_succ, List.set_cons_zero, List.set_cons_succ, Option.some.injEq, V.int.injEq, V.bl.injEq, V.str.injEq, V.ref.injEq, exists_eq_left, exists_eq_left', exists_eq_right, exists_eq, exists_and_left, and_true, true_and, decide_eq_true_eq, Nat.reduceAdd, Nat.reduceSub, Nat.add_zero, Nat.zero_add, List.cons.injEq, Bool.not_eq_true', decide_eq_false_iff_not, eq_self, reduceCtorEq, Bool.false_eq_true, if_true, if_false, ite_true, ite_false, and_self, ↓tLc_range1, ↓tLc_range2, ↓tLc_list, ↓tLc_tup, ↓tYes_, wipe0, wipe1, ↓tCallS_, ↓rIxL_, ↓rIxT_, ↓rSlL_, ↓rCat_, ↓rSetL_, ↓rRep_, ↓rGcd_, ↓tCallK_, ↓gUnl_, ↓tRaise_, decide_true, decide_false, not_true_eq_false, not_false_eq_true, false_and, or_false, false_or, and_false, and_assoc, exists_const, forall_const, forall_eq'])

section
variable {P : Program} {w : World} {K : PySem.W.Frag} {mg : Str → Option Value} {base : Heap}
/-- a text of bounds -/
structure Bt (s : Str) (n : Nat) : Prop where
  l : s.length ≤ n
  c : ∀ c ∈ tl s, c < 0x110000
theorem Bt.mono {s : Str} {n m : Nat} (h : Bt s n) (e : n ≤ m) : Bt s m := ⟨Nat.le_trans h.l e, h.c⟩
theorem Bt.app {a b : Str} {n m : Nat} (h : Bt a n) (g : Bt b m) : Bt (a ++ b) (n + m) := ⟨by rw [Str.length_append]; exact Nat.add_le_add h.l g.l, fun c hc => by
  rw [tl_append] at hc
  rcases List.mem_append.mp hc with z | z
  · exact h.c c z
  · exact g.c c z⟩
theorem Bt.sub {s w : Str} {n : Nat} (h : Bt s n) (hl : w.length ≤ s.length) (hc : ∀ c ∈ tl w, c ∈ tl s) : Bt w n := ⟨Nat.le_trans hl h.l, fun c q => h.c c (hc c q)⟩
theorem Bt.cut {s : Str} {n : Nat} (h : Bt s n) (lo hi : Option Int) : Bt (cutS s lo hi) n := h.sub (cutS_length _ _ _) fun c hc => by
  have : c ∈ (List.take _ (List.drop _ (tl s))) := hc
  exact List.mem_of_mem_drop (List.mem_of_mem_take this)
theorem Bt.sm {s : Str} {n : Nat} (h : Bt s n) (hn : n ≤ 10000) : smS s = true := by
  unfold smS
  rw [Bool.and_eq_true]
  refine ⟨decide_eq_true (Nat.le_trans h.l hn), ?_⟩
  unfold PyData.strOk
  rw [← Array.all_toList, List.all_eq_true]
  exact fun c hc => decide_eq_true (h.c c hc)
theorem splk (k : Nat) : ∀ (l acc : List Nat), spl [k] 0 acc l ≠ [] ∧ ((spl [k] 0 acc l).map (·.length)).sum + (spl [k] 0 acc l).length ≤ acc.length + l.length + 1 ∧ ∀ p ∈ spl [k] 0 acc l, ∀ c ∈ p, c ∈ acc ∨ c ∈ l
  | [], acc => by
    rw [spl_nil]
    refine ⟨by simp, by simp, fun p hp => ?_⟩
    rw [List.mem_singleton.mp hp]
    exact fun c hc => .inl hc
  | x :: r, acc => by
    cases h : pre [k] (x :: r) with
    | true =>
      rw [spl_hit h]
      obtain ⟨_, i1, i2⟩ := splk k r []
      show (acc :: spl [k] 0 [] r) ≠ [] ∧ ((acc :: spl [k] 0 [] r).map (·.length)).sum + (acc :: spl [k] 0 [] r).length ≤ _ ∧ _
      refine ⟨by simp, by rw [List.map_cons, List.sum_cons, List.length_cons, List.length_cons]; rw [List.length_nil] at i1; omega, fun p hp => ?_⟩
      rcases List.mem_cons.mp hp with rfl | hp
      · exact fun c hc => .inl hc
      · intro c hc
        rcases i2 p hp c hc with z | z
        · cases z
        · exact .inr (List.mem_cons_of_mem _ z)
    | false =>
      rw [spl_miss h]
      obtain ⟨i0, i1, i2⟩ := splk k r (acc ++ [x])
      refine ⟨i0, by rw [List.length_append] at i1; simp only [List.length_cons, List.length_nil] at i1 ⊢; omega, fun p hp => ?_⟩
      intro c hc
      rcases i2 p hp c hc with z | z
      · rcases List.mem_append.mp z with z | z
        · exact .inl z
        · rw [List.mem_singleton.mp z]; exact .inr List.mem_cons_self
      · exact .inr (List.mem_cons_of_mem _ z)
def jl (ws : List Str) : Nat := (ws.map (·.length)).sum + ws.length
theorem split_k (s : Str) (k : Nat) (hk : k < 256) : Txt.split s ⟨#[k]⟩ ≠ [] ∧ jl (Txt.split s ⟨#[k]⟩) ≤ s.length + 1 ∧ ∀ w ∈ Txt.split s ⟨#[k]⟩, ∀ c ∈ tl w, c ∈ tl s := by
  have e := split_spl s ⟨#[k]⟩ (by simp [tl]) (kind_ok (by simpa using hk))
  have e32 : tl (⟨#[k]⟩ : Str) = [k] := rfl
  rw [e32] at e
  obtain ⟨i0, i1, i2⟩ := splk k (tl s) []
  rw [← e] at i0 i1 i2
  refine ⟨fun z => i0 (by rw [z]; rfl), ?_, fun w hw c hc => ?_⟩
  · unfold jl
    rw [List.map_map, List.length_map] at i1
    rw [len_tl]
    have ef : ((Txt.split s ⟨#[k]⟩).map (·.length)) = ((Txt.split s ⟨#[k]⟩).map ((fun x : List Nat => x.length) ∘ tl)) := List.map_congr_left fun w _ => len_tl w
    rw [ef]
    simpa using i1
  · rcases i2 (tl w) (List.mem_map_of_mem hw) c hc with z | z
    · cases z
    · exact z
theorem join_mem {sep : Str} : ∀ {ws : List Str} {c : Nat}, c ∈ tl (Str.join sep ws) → c ∈ tl sep ∨ ∃ w ∈ ws, c ∈ tl w
  | [], c, h => by cases (show c ∈ ([] : List Nat) from h)
  | [x], c, h => .inr ⟨x, List.mem_cons_self, h⟩
  | x :: y :: r, c, h => by
    have h' : c ∈ tl (x ++ sep ++ Str.join sep (y :: r)) := h
    rw [tl_append, tl_append] at h'
    rcases List.mem_append.mp h' with z | z
    · rcases List.mem_append.mp z with z | z
      · exact .inr ⟨x, List.mem_cons_self, z⟩
      · exact .inl z
    · rcases join_mem z with z | ⟨w, hw, z⟩
      · exact .inl z
      · exact .inr ⟨w, List.mem_cons_of_mem _ hw, z⟩
theorem Bt.repl {s : Str} {n : Nat} (h : Bt s n) : Bt (Txt.replace s ";" "") n := by
  have hl := TK.replace_len s ";" ""
  have e0 : ("" : Str).length = 0 := by decide
  rw [e0, Nat.mul_zero, Nat.add_zero] at hl
  refine h.sub hl fun c hc => ?_
  have es : (";" : Str) = ⟨#[59]⟩ := by decide +kernel
  rw [es, StrLaws.replace_one] at hc
  rcases join_mem hc with z | ⟨w, hw, z⟩
  · exact absurd z (by rw [show tl ("" : Str) = [] by decide +kernel]; simp)
  · exact (split_k s 59 (by decide)).2.2 w hw c z
def btB (m : Nat) (s : Str) : Bool := decide (s.length ≤ m) && PyData.strOk s
theorem Bt.of {m : Nat} {s : Str} (h : btB m s = true) : Bt s m := by
  obtain ⟨h1, h2⟩ := Bool.and_eq_true_iff.mp h
  refine ⟨of_decide_eq_true h1, fun c hc => ?_⟩
  unfold PyData.strOk at h2
  rw [← Array.all_toList, List.all_eq_true] at h2
  exact of_decide_eq_true (h2 c hc)
theorem tup_ne {H : Hp} {u a : Addr} {xs : List V} (hw : WellAt H u) (e : H a = some (.tup xs)) : a ≠ u := fun z => by
  obtain ⟨x, y, c, q⟩ := hw
  rw [z, q] at e
  cases e
theorem pickSign {H : Hp} {u : Addr} {s : Str} {Q : VK} {E : XK} (hw : WellAt H u) (hb : btB 100 s = true) (h0 : 1 ≤ s.length) (k : ∀ (t : Str) (H' : Hp), But u H H' → WellAt H' u → Bt t 1 → Q (.str t) H') : spPick [.ref u, .str s] H Q E := by
  have b := Bt.of hb
  have hl : s.cps.toList.length = s.length := Array.length_toList ..
  refine ⟨u, .str s, _, rfl, hw, (fun q => nomatch q), .str s (Nat.le_trans b.l (by rw [sizeLine_eq]; decide)), by rw [List.length_map]; omega, by rw [List.length_map]; have := b.l; omega, fun y H' b' w' hy => ?_⟩
  obtain ⟨c, hc, rfl⟩ := List.mem_map.mp hy
  exact k _ H' b' w' ⟨Nat.le_refl _, fun x hx => by
    have : x ∈ [c] := hx
    rw [List.mem_singleton.mp this]
    exact b.c c hc⟩
theorem pickStrs {H : Hp} {u p : Addr} {ss : List Str} {m : Nat} {Q : VK} {E : XK} (hw : WellAt H u) (e : H p = some (.tup (ss.map V.str))) (hb : ∀ s ∈ ss, Bt s m) (l1 : 1 ≤ ss.length) (l2 : ss.length ≤ 1000) (k : ∀ (t : Str) (H' : Hp), But u H H' → WellAt H' u → Bt t m → Q (.str t) H') : spPick [.ref u, .ref p] H Q E := by
  refine ⟨u, .ref p, _, rfl, hw, (fun q => tup_ne hw e (by cases q; rfl)), .tup e, by rw [List.length_map]; exact l1, by rw [List.length_map]; exact l2, fun y H' b w' hy => ?_⟩
  obtain ⟨s, hs, rfl⟩ := List.mem_map.mp hy
  exact k s H' b w' (hb s hs)
theorem bt_all {m : Nat} {ss : List Str} (h : ss.all (btB m) = true) : ∀ s ∈ ss, Bt s m := fun s hs => Bt.of (List.all_eq_true.mp h s hs)
theorem WellAt.ne {H : Hp} {u p : Addr} (w : WellAt H u) (h : H p = none) : p ≠ u := fun z => by
  obtain ⟨a, b, c, e⟩ := w
  rw [z, e] at h
  cases h
theorem WellAt.put {H : Hp} {u p : Addr} {o : HO} (w : WellAt H u) (h : p ≠ u) : WellAt (upd H p o) u := by
  obtain ⟨a, b, c, e⟩ := w
  exact ⟨a, b, c, (upd_ne (Ne.symm h)).trans e⟩
theorem catD {H : Hp} {a b : Addr} {xs ys : List V} {Q : VK} (ha : H a = some (.tup xs)) (hb : H b = some (.tup ys)) (hz : xs.length + ys.length ≤ sizeLine) (k : ∀ (p : Addr) (H' : Hp), Same H H' → H' p = some (.tup (xs ++ ys)) → Q (.ref p) H') : rCatA K (.ref a) (.ref b) H Q := by
  refine ⟨a, b, xs, ys, rfl, rfl, SqT.of ha, SqT.of hb, hz, fun z => ?_, fun _ z => ?_, fun _ _ p hp => k p _ (same_new hp) upd_same⟩
  · subst z; exact k b H (Same.refl H) hb
  · subst z; exact k a H (Same.refl H) (by rw [List.append_nil]; exact ha)
theorem ixn {n : Nat} {i : Int} (h0 : 0 ≤ i) (h : i.toNat < n) : ixN n i = some i.toNat := by
  unfold ixN
  rw [if_pos h0, if_pos (by omega)]
theorem erase_map (f : Str → V) : ∀ (ws : List Str) (k : Nat), (ws.map f).eraseIdx k = (ws.eraseIdx k).map f
  | [], _ => rfl
  | _ :: _, 0 => rfl
  | w :: ws, k + 1 => by
    show f w :: (ws.map f).eraseIdx k = f w :: (ws.eraseIdx k).map f
    rw [erase_map f ws k]
theorem jl_cons (w : Str) (ws : List Str) : jl (w :: ws) = w.length + 1 + jl ws := by
  unfold jl
  rw [List.map_cons, List.sum_cons, List.length_cons]
  omega
theorem jl_app (a b : List Str) : jl (a ++ b) = jl a + jl b := by
  unfold jl
  rw [List.map_append, List.sum_append, List.length_append]
  omega
theorem jl_erase : ∀ (ws : List Str) (k : Nat), jl (ws.eraseIdx k) ≤ jl ws
  | [], _ => Nat.le_refl _
  | w :: ws, 0 => by
    show jl ws ≤ _
    rw [jl_cons]; omega
  | w :: ws, k + 1 => by
    show jl (w :: ws.eraseIdx k) ≤ _
    rw [jl_cons, jl_cons]
    have := jl_erase ws k
    omega
theorem jl_set (t : Str) : ∀ (ws : List Str) (k : Nat), jl (ws.set k t) ≤ jl ws + t.length
  | [], _ => by simp [jl]
  | w :: ws, 0 => by
    show jl (t :: ws) ≤ _
    rw [jl_cons, jl_cons]; omega
  | w :: ws, k + 1 => by
    show jl (w :: ws.set k t) ≤ _
    rw [jl_cons, jl_cons]
    have := jl_set t ws k
    omega
def spBent (K : PySem.W.Frag) : Sp := fun vs H Q _ => ∃ (u : Addr) (s : Str) (n : Nat), vs = [.ref u, .str s] ∧ WellAt H u ∧ Bt s n ∧ n ≤ 4000 ∧ ∀ (t : Str) (H' : Hp), But u H H' → WellAt H' u → Bt t (2 * n + 30) → Q (.str t) H'
theorem sc_bent : FnScope ["_law_well_here", "_law_said", "_law_branch", "_law_here", "_law_tokens", "_law_spot", "_law_menu"] ["_law_well_here", "_law_said"] (defScope (top 57)) := ⟨rfl, rfl, rfl, by decide +kernel, rfl, by decide +kernel, by decide +kernel⟩
theorem ok_bent {f : Addr} {fd : FuncData} (T : Tx mg) (F : FD K "_law_bent" (top 57) f fd) {f1 f2 : Addr} {fd1 fd2 : FuncData} (C1 : Cal P w K mg base CX0 1 "_law_take" ["_law_well_here", "_law_limit"] spTake f1 fd1) (C2 : Cal P w K mg base CX0 2 "_law_pick" ["_law_well_here", "_law_some"] spPick f2 fd2) : FnOk P w K mg base CX0 3 f fd ["_law_well_here", "_law_said"] (spBent K) := by
  obtain ⟨g_law_take, k_law_take, b_law_take, F_law_take⟩ := C1
  obtain ⟨g_law_pick, k_law_pick, b_law_pick, F_law_pick⟩ := C2
  refine F.ok sc_bent (fun vs H Q E h => ?_) (fun cdv A outer s H vs Q E hr h => ?_)
  · obtain ⟨_, _, _, rfl, _⟩ := h
    rfl
  · obtain ⟨u, z, n, rfl, hw, hb, hn, k⟩ := h
    have nd := sc_bent.nd
    refine ⟨_, (pss_cons (ps_par rfl nd (i := 2) (j := 3) rfl rfl (by decide) rfl rfl (pa_cons (pe_call F_law_take (hr.mono (by omega)) rfl g_law_take k_law_take b_law_take .nil pass0 (pa_cons (pv 0) (pa_cons pe_int pa_nil))) (pa_cons (pe_call F_law_take (hr.mono (by omega)) rfl g_law_take k_law_take b_law_take .nil pass0 (pa_cons (pv 0) (pa_cons (pe_op op_add (pe_callB call_len_str (by rfl) T.b_len PySem.boot_len (pa_cons (pv 1) pa_nil)) pe_int) pa_nil))) pa_nil)) rfl)
        (pss_cons (ps_if (pt_cmpR op_eq (pv 2) pe_int (nomark _)) (pss_one (ps_ret (pe_op op_add_str (pe_slice sl_str (pv 1) po_none (po_some (pv 3))) (pe_slice sl_str (pv 1) (po_some (pe_op op_add (pv 3) pe_int)) po_none)))) pss_nil)
        (pss_cons (ps_if (pt_cmpR op_eq (pv 2) pe_int (nomark _)) (pss_one (ps_ret (pe_op op_add_str (pe_op op_add_str (pe_slice sl_str (pv 1) po_none (po_some (pv 3))) (pe_call F_law_pick (hr.mono (by omega)) rfl g_law_pick k_law_pick b_law_pick .nil pass0 (pa_cons (pv 0) (pa_cons pe_str pa_nil)))) (pe_slice sl_str (pv 1) (po_some (pv 3)) po_none)))) pss_nil)
        (pss_cons (ps_if (pt_cmpR op_eq (pv 2) pe_int (nomark _)) (pss_one (ps_ret (pe_op op_add_str (pe_op op_add_str (pe_slice sl_str (pv 1) po_none (po_some (pv 3))) (pe_call F_law_pick (hr.mono (by omega)) rfl g_law_pick k_law_pick b_law_pick .nil pass0 (pa_cons (pv 0) (pa_cons pe_str pa_nil)))) (pe_slice sl_str (pv 1) (po_some (pe_op op_add (pv 3) pe_int)) po_none)))) pss_nil)
        (pss_cons (ps_if (pt_cmpR op_eq (pv 2) pe_int (nomark _)) (pss_one (ps_ret (pe_op op_add_str (pv 1) (pe_call F_law_pick (hr.mono (by omega)) rfl g_law_pick k_law_pick b_law_pick .nil pass0 (pa_cons (pv 0) (pa_cons (pe_tup (pa_cons pe_str (pa_cons pe_str (pa_cons pe_str (pa_cons pe_str (pa_cons pe_str (pa_cons pe_str (pa_cons pe_str (pa_cons pe_str (pa_cons pe_str pa_nil)))))))))) pa_nil)))))) pss_nil)
        (Rp.pss_bmC (i := 4) nd rfl (Or.inl rfl) PySem.F.plainAttrs_str PySem.F.slot_str_split PySem.F.type_str_split mt_split (pv 1)
        (psst_cons (PST.of (ps_par rfl nd (i := 5) (j := 6) rfl rfl (by decide) rfl rfl (pa_cons (pe_call F_law_take (hr.mono (by omega)) rfl g_law_take k_law_take b_law_take .nil pass0 (pa_cons (pv 0) (pa_cons (pe_callB call_len_seq (by rfl) T.b_len PySem.boot_len (pa_cons (pv 4) pa_nil)) pa_nil))) (pa_cons (pe_tup (pa_cons pe_str (pa_cons pe_str (pa_cons pe_str (pa_cons pe_str (pa_cons pe_str (pa_cons pe_str (pa_cons pe_str (pa_cons pe_str (pa_cons pe_str (pa_cons pe_str (pa_cons pe_str (pa_cons pe_str (pa_cons pe_str (pa_cons pe_str pa_nil))))))))))))))) pa_nil)) rfl))
        (psst_cons (CwR.pst_if (pt_cmpR op_eq (pv 2) pe_int (nomark _)) (PSsT.of (pss_one (ps_expr (pe_bm PySem.F.plainAttrs_list PySem.F.slot_list_pop PySem.F.type_list_pop mt_popAt (pv 4) (pa_cons (pv 5) pa_nil))))) (CwR.psst_one (CwR.pst_if (pt_cmpR op_eq (pv 2) pe_int (nomark _)) (PSsT.of (pss_one (ps_expr (pe_bm PySem.F.plainAttrs_list PySem.F.slot_list_insert PySem.F.type_list_insert mt_insert (pv 4) (pa_cons (pv 5) (pa_cons (pe_call F_law_pick (hr.mono (by omega)) rfl g_law_pick k_law_pick b_law_pick .nil pass0 (pa_cons (pv 0) (pa_cons (pv 6) pa_nil))) pa_nil)))))) (CwR.psst_one (CwR.pst_if (pt_cmpR op_eq (pv 2) pe_int (nomark _)) (PSsT.of (pss_one (ps_asg (pe_call F_law_pick (hr.mono (by omega)) rfl g_law_pick k_law_pick b_law_pick .nil pass0 (pa_cons (pv 0) (pa_cons (pe_op op_catA (pv 6) (pe_tup (pa_cons pe_str (pa_cons pe_str (pa_cons pe_str (pa_cons (pe_ix (r := rIxL K) ix_list (pv 4) (pe_call F_law_take (hr.mono (by omega)) rfl g_law_take k_law_take b_law_take .nil pass0 (pa_cons (pv 0) (pa_cons (pe_callB call_len_seq (by rfl) T.b_len PySem.boot_len (pa_cons (pv 4) pa_nil)) pa_nil))) (fun _ _ => rfl)) pa_nil)))))) pa_nil))) (pg_sub (pv 4) (pv 5) set_list)))) (CwR.psst_one (CwR.pst_if (pt_cmpR op_eq (pv 2) pe_int (nomark _)) (PSsT.of (pss_one (ps_asg (pe_op op_add_str (pe_ix (r := rIxL K) ix_list (pv 4) (pv 5) (fun _ _ => rfl)) pe_str) (pg_sub (pv 4) (pv 5) set_list)))) (CwR.psst_one (Rp.pst_asg (CwR.pet_replC (pe_ix (r := rIxL K) ix_list (pv 4) (pv 5) (fun _ _ => rfl))) (pg_sub (pv 4) (pv 5) set_list))))))))))
        (CwR.psst_one (PST.of (ps_ret (pe_join pe_str (pv 4))))))))))))), ?_⟩
    refine sq fun U hU => ?_
    walk_at "rd"
    have zl : (400000 : Nat) ≤ sizeLine := by rw [sizeLine_eq]; decide
    have lz := hb.l
    refine ⟨u, 9, rfl, hw, by decide, by decide, fun br H1 b1 w1 br0 br1 => ⟨by omega, u, _, rfl, w1, by omega, by omega, fun he H2 b2 w2 he0 he1 => hU _ _ ?_⟩⟩
    clear hU
    have bb := b1.trans b2
    have fin : ∀ (t : Str) (H' : Hp), But u H2 H' → WellAt H' u → Bt t (2 * n + 30) → Q (.str t) H' := fun t H' b w ht => k t H' (bb.trans b) w ht
    refine sq fun U hU => ?_
    walk_at "rd"
    by_cases c0 : br = 0
    · rw [if_pos c0]
      refine ⟨z, rfl, by omega, z, rfl, by omega, ?_⟩
      have q1 := hb.cut none (some he)
      have q2 := hb.cut (some (he + 1)) none
      have l1 := q1.l
      have l2 := q2.l
      exact ⟨_, rfl, _, rfl, by omega, fin _ _ But.refl w2 ((q1.app q2).mono (by omega))⟩
    rw [if_neg c0]
    refine hU _ _ ?_
    clear hU
    refine sq fun U hU => ?_
    walk_at "rd"
    by_cases c1 : br = 1
    · rw [if_pos c1]
      refine ⟨z, rfl, by omega, pickSign w2 (by decide +kernel) (by decide) fun t H3 b3 w3 ht => ⟨_, rfl, t, rfl, ?_, z, rfl, by omega, ?_⟩⟩
      · have l1 := (hb.cut none (some he)).l
        have l2 := ht.l
        omega
      · have q1 := (hb.cut none (some he)).app ht
        have q2 := hb.cut (some he) none
        have l1 := q1.l
        have l2 := q2.l
        refine ⟨_, rfl, by omega, fin _ _ b3 w3 ((q1.app q2).mono (by omega))⟩
    rw [if_neg c1]
    refine hU _ _ ?_
    clear hU
    refine sq fun U hU => ?_
    walk_at "rd"
    by_cases c2 : br = 2
    · rw [if_pos c2]
      refine ⟨z, rfl, by omega, pickSign w2 (by decide +kernel) (by decide) fun t H3 b3 w3 ht => ⟨_, rfl, t, rfl, ?_, z, rfl, by omega, ?_⟩⟩
      · have l1 := (hb.cut none (some he)).l
        have l2 := ht.l
        omega
      · have q1 := (hb.cut none (some he)).app ht
        have q2 := hb.cut (some (he + 1)) none
        have l1 := q1.l
        have l2 := q2.l
        refine ⟨_, rfl, by omega, fin _ _ b3 w3 ((q1.app q2).mono (by omega))⟩
    rw [if_neg c2]
    refine hU _ _ ?_
    clear hU
    refine sq fun U hU => ?_
    walk_at "rd"
    by_cases c3 : br = 3
    · rw [if_pos c3]
      refine ⟨by decide, fun p hp => ?_⟩
      have s3 := same_new (o := .tup [.str "; ", .str ";", .str " ", .str "; none", .str "; x = y", .str " }", .str " else { none }", .str " and x = y", .str " or y != END"]) hp
      refine pickStrs (m := 20) (ss := ["; ", ";", " ", "; none", "; x = y", " }", " else { none }", " and x = y", " or y != END"]) (w2.but s3) upd_same (bt_all (by decide +kernel)) (by decide) (by decide) fun t H3 b3 w3 ht => ⟨t, rfl, ?_, ?_⟩
      · have l2 := ht.l
        omega
      · exact fin _ _ ((But.same s3).trans b3) w3 ((hb.app ht).mono (by omega))
    rw [if_neg c3]
    refine hU _ _ ?_
    clear hU
    refine sq fun U hU => ?_
    walk_at "rd"
    refine ⟨rfl, by decide, by omega, fun p hp => hU _ _ ?_⟩
    clear hU
    refine sq fun U hU => ?_
    walk_at "rd"
    obtain ⟨ne, jle, sub⟩ := split_k z 32 (by decide)
    have e32 : (⟨#[32]⟩ : Str) = " " := by decide +kernel
    rw [e32] at ne jle sub
    have s3 : Same H2 (upd H2 p (.lst ((Txt.split z " ").map V.str))) := same_new hp
    have pu : p ≠ u := w2.ne hp
    have e3 : (upd H2 p (HO.lst ((Txt.split z " ").map V.str))) p = some (.lst ((Txt.split z " ").map V.str)) := upd_same
    have w3 := w2.but s3
    have hch : ∀ w ∈ Txt.split z " ", ∀ c ∈ tl w, c < 0x110000 := fun w hw c hc => hb.c c (sub w hw c hc)
    generalize Txt.split z " " = ws at *
    generalize upd H2 p (HO.lst (ws.map V.str)) = H3 at s3 e3 w3 ⊢
    have lw : 1 ≤ ws.length := List.length_pos_iff.mpr ne
    have jlw : (ws.map (·.length)).sum + ws.length ≤ n + 1 := by unfold jl at jle; omega
    have wle : ∀ w ∈ ws, w.length ≤ n := fun w hw => by
      have := mem_sum_le (fun x : Str => x.length) ws w hw
      omega
    refine ⟨_, .inl (SqL.of e3), ?_⟩
    rw [List.length_map]
    refine ⟨u, _, rfl, w3, by omega, by omega, fun sp H4 b4 w4 sp0 sp1 => ⟨by decide, fun p1 hp1 => hU _ _ ?_⟩⟩
    clear hU
    have e4 := b4 _ _ pu e3
    have s5 : Same H4 (upd H4 p1 (.tup [.str "x", .str "=", .str "next", .str "new", .str "END", .str "none", .str "{", .str "}", .str "else", .str "and", .str "or", .str "", .str ";", .str "!="])) := same_new hp1
    have m5 : (upd H4 p1 (HO.tup [.str "x", .str "=", .str "next", .str "new", .str "END", .str "none", .str "{", .str "}", .str "else", .str "and", .str "or", .str "", .str ";", .str "!="])) p1 = some (.tup [.str "x", .str "=", .str "next", .str "new", .str "END", .str "none", .str "{", .str "}", .str "else", .str "and", .str "or", .str "", .str ";", .str "!="]) := upd_same
    have b5 : But u H2 (upd H4 p1 (HO.tup [.str "x", .str "=", .str "next", .str "new", .str "END", .str "none", .str "{", .str "}", .str "else", .str "and", .str "or", .str "", .str ";", .str "!="])) := (But.same s3).trans (b4.trans (But.same s5))
    have e5 := s5 _ _ e4
    have w5 := w4.but s5
    generalize (upd H4 p1 (HO.tup [V.str (Str.ofString "x"), V.str (Str.ofString "="), V.str (Str.ofString "next"), V.str (Str.ofString "new"), V.str (Str.ofString "END"), V.str (Str.ofString "none"), V.str (Str.ofString "{"), V.str (Str.ofString "}"), V.str (Str.ofString "else"), V.str (Str.ofString "and"), V.str (Str.ofString "or"), V.str (Str.ofString ""), V.str (Str.ofString ";"), V.str (Str.ofString "!=")])) = H5 at m5 b5 e5 w5 ⊢
    clear s3 w3 e3 b4 w4 e4 s5 hp1
    refine sq fun U hU => ?_
    have goJ : ∀ (H' : Hp) (ws' : List Str), But u H2 H' → WellAt H' u → H' p = some (.lst (ws'.map V.str)) → (∀ w ∈ ws', ∀ c ∈ tl w, c < 0x110000) → jl ws' ≤ 2 * n + 30 → U [some (.ref u), some (.str z), some (.int br), some (.int he), some (.ref p), some (.int sp), some (.ref p1)] H' := fun H' ws' b' w' e' hc hj => by
      refine hU _ _ ?_
      clear hU
      walk_at "rd"
      have e1 : (" " : Str).length = 1 := by decide
      unfold jl at hj
      refine ⟨⟨_, rfl⟩, ws', .inl (SqL.of e'), ?_, ?_⟩
      · show _ + ws'.length * (" " : Str).length ≤ _
        rw [e1, Nat.mul_one]
        have : (ws'.map (fun x => x.length)).sum + ws'.length ≤ 2 * n + 30 := hj
        omega
      · refine fin _ H' b' w' ⟨?_, fun c hc' => ?_⟩
        · rw [TL.join_eq]
          have := StrLaws.join_length_le " " ws'
          rw [e1, Nat.mul_one] at this
          omega
        · rw [TL.join_eq] at hc'
          rcases join_mem hc' with q | ⟨w, hw', q⟩
          · rw [show tl (" " : Str) = [32] by decide +kernel, List.mem_singleton] at q
            rw [q]; decide
          · exact hc w hw' c q
    have spl' : sp.toNat < ws.length := by omega
    obtain ⟨wd, hwd⟩ : ∃ wd, ws[sp.toNat]? = some wd := ⟨_, List.getElem?_eq_getElem spl'⟩
    have wdm := List.mem_of_getElem? hwd
    have hwdV : (ws.map V.str)[sp.toNat]? = some (V.str wd) := by rw [List.getElem?_map, hwd]; rfl
    have ixs : ixN (ws.map V.str).length sp = some sp.toNat := ixn sp0 (by rw [List.length_map]; exact spl')
    have jle' : jl ws ≤ n + 1 := by omega
    have setc : ∀ t : Str, (∀ c ∈ tl t, c < 0x110000) → ∀ w ∈ ws.set sp.toNat t, ∀ c ∈ tl w, c < 0x110000 := fun t ht w hw c hc => by
      rcases List.mem_or_eq_of_mem_set hw with q | q
      · exact hch w q c hc
      · rw [q] at hc; exact ht c hc
    refine iq fun T1 U1 hT1 hU1 => ?_
    walk_at "rd"
    by_cases c4 : br = 4
    · rw [if_pos c4]
      refine hT1 _ ?_
      walk_at "rd"
      refine ⟨.inl ⟨rfl, _, SqL.of e5⟩, p, _, sp, sp.toNat, _, rfl, rfl, e5, by omega, by omega, (ixN_seq ixs).1, hwdV, ?_⟩
      refine goJ _ (ws.eraseIdx sp.toNat) (but_new b5 hp) (w5.put pu) (by rw [upd_same, erase_map]) (fun w hw => hch w ((List.eraseIdx_sublist ws sp.toNat).subset hw)) ?_
      have := jl_erase ws sp.toNat
      omega
    rw [if_neg c4]
    refine hU1 _ ?_
    clear hT1 hU1
    refine iq fun T1 U1 hT1 hU1 => ?_
    walk_at "rd"
    by_cases c5 : br = 5
    · rw [if_pos c5]
      refine hT1 _ ?_
      walk_at "rd"
      refine ⟨.inl ⟨rfl, _, SqL.of e5⟩, pickStrs (m := 5) (ss := ["x", "=", "next", "new", "END", "none", "{", "}", "else", "and", "or", "", ";", "!="]) w5 m5 (bt_all (by decide +kernel)) (by decide) (by decide) fun t H6 b6 w6 ht => ⟨_, b6 _ _ pu e5, by rw [List.length_map]; omega, sp0, by omega, ?_⟩⟩
      refine goJ _ (ws.take sp.toNat ++ [t] ++ ws.drop sp.toNat) (but_new (b5.trans b6) hp) (w6.put pu) ?_ (fun w hw => ?_) ?_
      · rw [upd_same, List.map_append, List.map_append, List.map_take, List.map_drop]
        rfl
      · rcases List.mem_append.mp hw with hw | hw
        · rcases List.mem_append.mp hw with hw | hw
          · exact hch w (List.mem_of_mem_take hw)
          · rw [List.mem_singleton.mp hw]; exact ht.c
        · exact hch w (List.mem_of_mem_drop hw)
      · have h1 : jl (ws.take sp.toNat) + jl (ws.drop sp.toNat) = jl ws := by rw [← jl_app, List.take_append_drop]
        have h2 : jl [t] = t.length + 1 := by rw [jl_cons]; rfl
        have := ht.l
        rw [jl_app, jl_app]
        omega
    rw [if_neg c5]
    refine hU1 _ ?_
    clear hT1 hU1
    refine iq fun T1 U1 hT1 hU1 => ?_
    walk_at "rd"
    by_cases c6 : br = 6
    · rw [if_pos c6]
      refine hT1 _ ?_
      walk_at "rd"
      refine ⟨_, .inl (SqL.of e5), ?_⟩
      rw [List.length_map]
      refine ⟨u, _, rfl, w5, by omega, by omega, fun i H6 b6 w6 i0 i1 => ?_⟩
      have hi : i.toNat < ws.length := by omega
      have e6 := b6 _ _ pu e5
      have hiV : (ws.map V.str)[i.toNat]? = some (V.str (ws[i.toNat]'hi)) := by rw [List.getElem?_map, List.getElem?_eq_getElem hi]; rfl
      have him : ws[i.toNat]'hi ∈ ws := List.getElem_mem hi
      refine ⟨_, i, rfl, SqL.of e6, _, atI_nn i0 hiV, by decide, fun p2 hp2 => ?_⟩
      have s7 : Same H6 (upd H6 p2 (.tup [.str "drop", .str "if", .str "while", .str (ws[i.toNat]'hi)])) := same_new hp2
      refine catD (s7 _ _ (b6 _ _ (tup_ne w5 m5) m5)) upd_same (Nat.le_trans (show 18 ≤ 18 by decide) (by omega)) fun pz Hz sz ez => ?_
      have ss := s7.trans sz
      refine pickStrs (m := n + 5) (ss := ["x", "=", "next", "new", "END", "none", "{", "}", "else", "and", "or", "", ";", "!=", "drop", "if", "while", ws[i.toNat]'hi]) (w6.but ss) ez (fun s hs => ?_) (by simp) (by simp) fun t H8 b8 w8 ht => ?_
      · have : s ∈ (["x", "=", "next", "new", "END", "none", "{", "}", "else", "and", "or", "", ";", "!=", "drop", "if", "while"] : List Str) ++ [ws[i.toNat]'hi] := hs
        rcases List.mem_append.mp this with q | q
        · exact ((bt_all (m := 5) (ss := ["x", "=", "next", "new", "END", "none", "{", "}", "else", "and", "or", "", ";", "!=", "drop", "if", "while"]) (by decide +kernel)) s q).mono (by omega)
        · rw [List.mem_singleton.mp q]
          exact ⟨Nat.le_trans (wle _ him) (by omega), hch _ him⟩
      · have b28 : But u H2 H8 := b5.trans (b6.trans ((But.same ss).trans b8))
        refine ⟨_, b8 _ _ pu (ss _ _ e6), _, ixs, ?_⟩
        refine goJ _ (ws.set sp.toNat t) (but_new b28 hp) (w8.put pu) (by rw [upd_same, List.map_set]) (setc t ht.c) ?_
        have := jl_set t ws sp.toNat
        have := ht.l
        omega
    rw [if_neg c6]
    refine hU1 _ ?_
    clear hT1 hU1
    refine iq fun T1 U1 hT1 hU1 => ?_
    have wl := wle wd wdm
    have bwd : Bt wd n := ⟨wl, hch wd wdm⟩
    walk_at "rd"
    by_cases c7 : br = 7
    · rw [if_pos c7]
      refine hT1 _ ?_
      walk_at "rd"
      have bt := bwd.app (show Bt ";" 1 from Bt.of (by decide +kernel))
      have l1 := bt.l
      refine ⟨_, SqL.of e5, _, atI_nn sp0 hwdV, wd, rfl, ?_, _, e5, _, ixs, ?_⟩
      · rw [Str.length_append] at l1
        omega
      · refine goJ _ (ws.set sp.toNat (wd ++ ";")) (but_new b5 hp) (w5.put pu) (by rw [upd_same, List.map_set]) (setc _ bt.c) ?_
        have := jl_set (wd ++ ";") ws sp.toNat
        omega
    rw [if_neg c7]
    refine hU1 _ ?_
    clear hT1 hU1
    walk_at "rd"
    have bt := bwd.repl
    have l1 := bt.l
    refine ⟨_, SqL.of e5, _, atI_nn sp0 hwdV, wd, rfl, ?_, _, e5, _, ixs, ?_⟩
    · show wd.length + (wd.length + 1) * (Str.ofString "").length ≤ 16777216
      rw [show (Str.ofString "").length = 0 by decide, Nat.mul_zero]
      omega
    · refine goJ _ (ws.set sp.toNat (Txt.replace wd ";" "")) (but_new b5 hp) (w5.put pu) (by rw [upd_same, List.map_set]) (setc _ bt.c) ?_
      have := jl_set (Txt.replace wd ";" "") ws sp.toNat
      omega
end
end K40

set_option Elab.async false
set_option linter.all false
set_option maxRecDepth 100000
set_option maxHeartbeats 4000000
namespace K40
open PySem PySem.Spec PyProof.Rows L2 Rd Dt Dq Pk TL
local macro_rules | `(tactic| walk_at "rd") => `(tactic| try simp only [↓tFld_, ↓sFld_, ↓tVar_, ↓tC_, ↓tM1, ↓tDNewK_, ↓tOp_, ↓tUn_, ↓rI_, ↓rI0_, ↓rU_, ↓eq_ii, ↓ne_ii, ↓eq_ss, ↓ne_ss, ↓eq_bb, ↓ne_bb, ↓tAndV_, ↓tOrV_, ↓tNotV_, ↓tIf_, ↓tTest_, ↓tB_, ↓tAnd_, ↓tOr_, ↓tNot_, ↓tChain_, ↓tNil_, ↓tCons_, ↓tTup_, ↓tLst_, ↓tCB_, ↓tCall_, ↓tSeq_, ↓tNext_, ↓tRet_, ↓tRetN_, ↓tDrop_, ↓tBreak_, ↓tNever_, ↓tIfS_, ↓tAsg_, ↓gName_, ↓gTup_, ↓gCons_, ↓gNil_, ↓gSub_, ↓tPar_, ↓tPar3_, ↓tSl_, ↓tNoPart_, ↓tPart_, ↓tBM_, ↓tFor_range1, ↓tFor_range2, ↓tFor_list, ↓tFor_tup, L2.start, List.headD_cons, List.headD_nil, List.tail_cons, List.map_cons, List.map_nil, List.length_cons, List.length_nil, List.replicate, List.append_nil, List.nil_append, List.cons_append, List.getElem?_cons_zero, List.getElem?_cons_succ, List.set_cons_zero, List.set_cons_succ, Option.some.injEq, V.int.injEq, V.bl.injEq, V.str.injEq, V.ref.injEq, exists_eq_left, exists_eq_left', exists_eq_right, exists_eq, exists_and_left, and_true, true_and, decide_eq_true_eq, Nat.reduceAdd, Nat.reduceSub, Nat.add_zero, Nat.zero_add, List.cons.injEq, Bool.not_eq_true', decide_eq_false_iff_not, eq_self, reduceCtorEq, Bool.false_eq_true, if_true, if_false, ite_true, ite_false, and_self, ↓tLc_range1, ↓tLc_range2, ↓tLc_list, ↓tLc_tup, ↓tYes_, wipe0, wipe1, ↓tCallS_, ↓rIxL_, ↓rIxT_, ↓rSlL_, ↓rCat_, ↓rSetL_, ↓rRep_, ↓rGcd_, ↓tCallK_, ↓gUnl_, ↓tRaise_, decide_true, decide_false, not_true_eq_false, not_false_eq_true, false_and, or_false, false_or, and_false, and_assoc, exists_const, forall_const, forall_eq'])

section
variable {P : Program} {w : World} {K : PySem.W.Frag} {mg : Str → Option Value} {base : Heap}
theorem sm_letter {a : Str} (h : isLetterS a = true) : smS a = true := by
  obtain ⟨s, e, t⟩ := letter_tok (d := .str a) h
  cases e
  unfold smS
  rw [decide_eq_true (show a.length ≤ 10000 from Nat.le_trans t.len (by decide)), t.ok]; rfl
theorem sm_goal {a : Str} (h : isGoal (.str a) = true) : smS a = true := by
  obtain ⟨s, e, t⟩ := goal_tok h
  cases e
  unfold smS
  rw [decide_eq_true (show a.length ≤ 10000 from Nat.le_trans t.len (by decide)), t.ok]; rfl
theorem l_goalP {b : Str} (h : isLetterS b = true) : isGoal (.str b) = true := by
  show (isLetterS b || decide (b = "END")) = true
  rw [h]; rfl
theorem g_END : isGoal (.str "END") = true := by decide +kernel
def Sg (z : Str) : Prop := z.length ≤ 20 ∧ (∀ c ∈ z.cps.toList, c ∈ abc.cps.toList) ∧ 1 ≤ z.cps.toList.length ∧ z.cps.toList.length ≤ 20
theorem Sg.row {z : Str} (h : Sg z) (H : Hp) : Row H (.str z) (z.cps.toList.map fun c => V.str ⟨#[c]⟩) ∧ 1 ≤ (z.cps.toList.map fun c => V.str ⟨#[c]⟩).length ∧ (z.cps.toList.map fun c => V.str ⟨#[c]⟩).length ≤ 20 ∧ ∀ y ∈ (z.cps.toList.map fun c => V.str ⟨#[c]⟩), ∃ s : Str, y = .str s ∧ smS s = true ∧ s.length = 1 ∧ isLetterS s = true := by
  obtain ⟨h1, h2, h3, h4⟩ := h
  refine ⟨.str z (Nat.le_trans h1 (by rw [sizeLine_eq]; decide)), by rw [List.length_map]; exact h3, by rw [List.length_map]; exact h4, fun y hy => ?_⟩
  obtain ⟨c, hc, rfl⟩ := List.mem_map.mp hy
  have hl : isLetterS ⟨#[c]⟩ = true := by
    show decide (c ∈ abc.cps.toList) = true
    exact decide_eq_true (h2 c hc)
  exact ⟨⟨#[c]⟩, rfl, sm_letter hl, rfl, hl⟩
theorem wt3 {a b c : Str} (h : a.length ≤ 4 ∧ b.length ≤ 4 ∧ c.length ≤ 4) : (PyData.tuple [.str a, .str b, .str c]).depth ≤ 1 ∧ wt (.tuple [.str a, .str b, .str c]) ≤ 200 := by
  refine ⟨by simp [PyData.depth, PyData.depthAll], ?_⟩
  simp only [wt, wtAll]
  omega
theorem but_none {u p : Addr} {H H' : Hp} (a : But u H H') (w : WellAt H' u) (n : H' p = none) : H p = none := bnone a n (w.ne n)
/-- data outlives what is done to the well -/
theorem dq_but {u : Addr} {H H' : Hp} (hb : But u H H') (w : WellAt H u) {x : V} {d : PyData} (h : Dq K H x d) : Dq K H' x d := by
  refine h.keep fun a o e xs ho => hb a o (fun z => ?_) e
  obtain ⟨a1, b1, c1, q⟩ := w
  rw [z, q] at e
  cases e
  rcases ho with ⟨h1, h2⟩ | h1 | h1
  · cases h1
    exact absurd (show 3 ≤ 1 from h2) (by decide)
  · cases h1
  · cases h1
theorem dqAll_but {u : Addr} {H H' : Hp} (hb : But u H H') (w : WellAt H u) {x : List V} {d : List PyData} (h : DqAll K H x d) : DqAll K H' x d := by
  refine h.keep fun a o e xs ho => hb a o (fun z => ?_) e
  obtain ⟨a1, b1, c1, q⟩ := w
  rw [z, q] at e
  cases e
  rcases ho with ⟨h1, h2⟩ | h1 | h1
  · cases h1
    exact absurd (show 3 ≤ 1 from h2) (by decide)
  · cases h1
  · cases h1
theorem c_ok {sg a b : Str} (hs : sg = "=" ∨ sg = "!=") (ha : isLetterS a = true) (hb : isGoal (.str b) = true) : isComp (.tuple [.str sg, .str a, .str b]) = true := by
  show ((decide (sg = "=") || decide (sg = "!=")) && (isLetterS a && isGoal (.str b))) = true
  rw [ha, hb]
  rcases hs with rfl | rfl <;> decide
theorem t_ok {jt : Str} {ds : List PyData} (hj : jt = "and" ∨ jt = "or") (h1 : 1 ≤ ds.length) (h3 : ds.length ≤ 3) (ho : jt = "or" → 1 < ds.length) (hc : ∀ c ∈ ds, isComp c = true) : isTest (.tuple [.str jt, .tuple ds]) = true := by
  show ((decide (jt = "and") || decide (jt = "or")) && (decide (1 ≤ ds.length ∧ ds.length ≤ 3) && (!(decide (ds.length = 1) && decide (jt = "or")) && ds.all isComp))) = true
  rw [List.all_eq_true.mpr hc, decide_eq_true (show 1 ≤ ds.length ∧ ds.length ≤ 3 from ⟨h1, h3⟩)]
  rcases hj with rfl | rfl
  · simp only [decide_eq_false (show ¬ ("and" : Str) = "or" by decide)]
    simp
  · have := ho rfl
    rw [decide_eq_false (show ¬ ds.length = 1 by omega)]
    simp
/-- rows of acts' size -/
def quP (K : PySem.W.Frag) (H0 : Hp) (u p : Addr) (z : Str) (oft : Int) (jt : Str) (i : Nat) : L2.St → Hp → Prop := fun σ H => But u H0 H ∧ WellAt H u ∧ (∃ (xs : List V) (ds : List PyData), H p = some (.lst xs) ∧ DqAll K (nw H0 p H) xs ds ∧ ds.length = i ∧ PyData.depthAll ds ≤ 1 ∧ wtAll ds ≤ 202 * i ∧ (∀ c ∈ ds, isComp c = true)) ∧ ∃ a b c : Option V, σ = [some (.ref u), some (.str z), some (.int oft), some (.str jt), some (.ref p), a, b, c]
def spQuiz (K : PySem.W.Frag) : Sp := fun vs H Q _ => ∃ (u : Addr) (z : Str), vs = [.ref u, .str z] ∧ WellAt H u ∧ Sg z ∧ ∀ (x : V) (d : PyData) (H' : Hp), But u H H' → WellAt H' u → Dq K (newp H H') x d → d.depth ≤ 3 → wt d ≤ 700 → isTest d = true → Q x H'
theorem sc_qz : FnScope ["_law_well_here", "_law_signs", "_law_often", "_law_joint", "_law_found", "_law_turn", "_law_mark", "_law_one"] ["_law_well_here", "_law_signs"] (defScope (top 50)) := ⟨rfl, rfl, rfl, by decide +kernel, rfl, by decide +kernel, by decide +kernel⟩
theorem ok_qz {f : Addr} {fd : FuncData} (T : Tx mg) (F : FD K "_law_quiz" (top 50) f fd) {f1 f2 : Addr} {fd1 fd2 : FuncData} (C1 : Cal P w K mg base CX0 1 "_law_take" ["_law_well_here", "_law_limit"] spTake f1 fd1) (C2 : Cal P w K mg base CX0 2 "_law_pick" ["_law_well_here", "_law_some"] spPick f2 fd2) : FnOk P w K mg base CX0 3 f fd ["_law_well_here", "_law_signs"] (spQuiz K) := by
  obtain ⟨g_law_take, k_law_take, b_law_take, F_law_take⟩ := C1
  obtain ⟨g_law_pick, k_law_pick, b_law_pick, F_law_pick⟩ := C2
  refine F.ok sc_qz (fun vs H Q E h => ?_) (fun cdv A outer s H vs Q E hr h => ?_)
  · obtain ⟨_, _, rfl, _⟩ := h
    rfl
  · obtain ⟨u, z, rfl, hw, hz, k⟩ := h
    have nd := sc_qz.nd
    refine ⟨_, (pss_cons (ps_set (i := 2) nd rfl (Or.inl rfl) (pe_ix (r := rIxT K) ix_tup (pe_tup (pa_cons pe_int (pa_cons pe_int (pa_cons pe_int (pa_cons pe_int pa_nil))))) (pe_call F_law_take (hr.mono (by omega)) rfl g_law_take k_law_take b_law_take .nil pass0 (pa_cons (pv 0) (pa_cons pe_int pa_nil))) (fun _ _ => rfl)))
        (pss_cons (ps_par rfl nd (i := 3) (j := 4) rfl rfl (by decide) rfl rfl (pa_cons (pe_ifExp (PW.pt (pw_and (pt_cmpR op_gt (pv 2) pe_int (nomark _)) (pw_and1 (pt_cmpR op_eq (pe_call F_law_take (hr.mono (by omega)) rfl g_law_take k_law_take b_law_take .nil pass0 (pa_cons (pv 0) (pa_cons pe_int pa_nil))) pe_int (nomark _))))) pe_str pe_str) (pa_cons (pe_lst pa_nil) pa_nil)) rfl)
        (pss_cons (ps_for (passes_of rfl) rfl (pi_range1 rfl T.b_range (pa_cons (pv 2) pa_nil)) (pg_name (i := 5) nd rfl (Or.inl rfl)) (pss_cons (ps_par rfl nd (i := 6) (j := 7) rfl rfl (by decide) rfl rfl (pa_cons (pe_call F_law_pick (hr.mono (by omega)) rfl g_law_pick k_law_pick b_law_pick .nil pass0 (pa_cons (pv 0) (pa_cons (pe_tup (pa_cons pe_str (pa_cons pe_str pa_nil))) pa_nil))) (pa_cons (pe_call F_law_pick (hr.mono (by omega)) rfl g_law_pick k_law_pick b_law_pick .nil pass0 (pa_cons (pv 0) (pa_cons (pv 1) pa_nil))) pa_nil)) rfl)
        (pss_one (ps_expr (pe_bm PySem.F.plainAttrs_list PySem.F.slot_list_append PySem.F.type_list_append mt_append (pv 4) (pa_cons (pe_tup (pa_cons (pv 6) (pa_cons (pv 7) (pa_cons (pe_call F_law_pick (hr.mono (by omega)) rfl g_law_pick k_law_pick b_law_pick .nil pass0 (pa_cons (pv 0) (pa_cons (pe_op op_cat (pe_callTy (call_list_signs hr.hd) (by rfl) T.b_list (by decide +kernel) (pa_cons (pv 1) pa_nil)) (pe_lst (pa_cons pe_str (pa_cons pe_str pa_nil)))) pa_nil))) pa_nil)))) pa_nil))))))
        (pss_one (ps_ret (pe_tup (pa_cons (pv 3) (pa_cons (pe_callTy call_tuple_of (by rfl) T.b_tuple (by decide +kernel) (pa_cons (pv 4) pa_nil)) pa_nil)))))))), ?_⟩
    refine sq fun U hU => ?_
    walk_at "rd"
    refine ⟨by decide, fun p0 hp0 => ?_⟩
    have s0 : Same H (upd H p0 (.tup [.int 1, .int 1, .int 2, .int 3])) := same_new hp0
    refine ⟨u, 4, rfl, hw.but s0, by decide, by decide, fun o H1 b1 w1 o0 o1 => ?_⟩
    have e1 := b1 _ _ (hw.ne hp0) (upd_same (o := .tup [.int 1, .int 1, .int 2, .int 3]))
    have ob : ∃ oft : Int, ([V.int 1, V.int 1, V.int 2, V.int 3] : List V)[o.toNat]? = some (.int oft) ∧ 1 ≤ oft ∧ oft ≤ 3 := by
      obtain rfl | rfl | rfl | rfl : o = 0 ∨ o = 1 ∨ o = 2 ∨ o = 3 := by omega
      · exact ⟨1, rfl, by decide, by decide⟩
      · exact ⟨1, rfl, by decide, by decide⟩
      · exact ⟨2, rfl, by decide, by decide⟩
      · exact ⟨3, rfl, by decide, by decide⟩
    obtain ⟨oft, eo, oft1, oft3⟩ := ob
    have bb1 : But u H H1 := (But.same s0).trans b1
    refine ⟨_, _, rfl, SqT.of e1, _, atI_nn o0 eo, hU _ _ ?_⟩
    clear hU
    refine sq fun U hU => ?_
    walk_at "rd"
    suffices go : ∀ (jt : Str) (H2 : Hp) (p : Addr), But u H H2 → WellAt H2 u → H2 p = none → (jt = "or" ∨ jt = "and") → (jt = "or" → 1 < oft) → U [some (.ref u), some (.str z), some (.int oft), some (.str jt), some (.ref p), none, none, none] (upd H2 p (.lst [])) by
      by_cases o2 : 1 < oft
      · rw [if_pos o2]
        refine ⟨u, 2, rfl, w1, by decide, by decide, fun c H2 b2 w2 c0 c1 => ?_⟩
        walk_at "rd"
        by_cases cc : c = 1
        · rw [if_pos cc]
          exact ⟨by decide, fun p hp => go _ _ p (bb1.trans b2) w2 hp (.inl rfl) (fun _ => o2)⟩
        · rw [if_neg cc]
          exact ⟨by decide, fun p hp => go _ _ p (bb1.trans b2) w2 hp (.inr rfl) (fun z => absurd z (by decide))⟩
      · rw [if_neg o2]
        exact ⟨by decide, fun p hp => go _ _ p bb1 w1 hp (.inr rfl) (fun z => absurd z (by decide))⟩
    intro jt H2 p bb2 w2 hp hj hjo
    refine hU _ _ ?_
    clear hU
    have hp0 := but_none bb2 w2 hp
    have pu := w2.ne hp
    refine sq fun U hU => ?_
    walk_at "rd"
    refine ⟨by omega, by omega, ?_⟩
    refine for_r (quP K H u p z oft jt) ⟨but_new bb2 hp0, w2.put pu, ⟨[], [], upd_same, .nil, rfl, by simp [PyData.depthAll], by simp [wtAll], (fun _ z => nomatch z)⟩, _, _, _, rfl⟩ ?_ ?_
    · rintro i σ H3 hi ⟨bb3, w3, ⟨xs, ds, hL, hD, hlen, hdp, hwt, hcs⟩, a, b, c, rfl⟩
      simp only [gName_, List.set_cons_succ, List.set_cons_zero]
      refine sq fun V2 hV => ?_
      walk_at "rd"
      refine ⟨by decide, fun p1 hp1 => ?_⟩
      have s1 : Same H3 (upd H3 p1 (.tup [.str "=", .str "!="])) := same_new hp1
      refine ⟨u, .ref p1, _, rfl, w3.but s1, (fun q => w3.ne hp1 (by cases q; rfl)), .tup upd_same, (by decide : 1 ≤ 2), (by decide : 2 ≤ 1000), fun y1 H4 b4 w4 hy1 => ?_⟩
      obtain ⟨r1, r2, r3, r4⟩ := hz.row H4
      refine ⟨u, .str z, _, rfl, w4, (fun q => nomatch q), r1, r2, by omega, fun y2 H5 b5 w5 hy2 => hV _ _ ?_⟩
      clear hV
      have b35 : But u H3 H5 := ((But.same s1).trans b4).trans b5
      obtain ⟨s2, rfl, m2, l2, i2⟩ := r4 y2 hy2
      obtain ⟨sg, rfl, mg', lg, ig⟩ : ∃ sg : Str, y1 = .str sg ∧ smS sg = true ∧ sg.length ≤ 4 ∧ (sg = "=" ∨ sg = "!=") := by
        simp only [List.mem_cons, List.not_mem_nil, or_false] at hy1
        rcases hy1 with rfl | rfl
        · exact ⟨_, rfl, by decide +kernel, by decide, .inl rfl⟩
        · exact ⟨_, rfl, by decide +kernel, by decide, .inr rfl⟩
      replace hL := b35 _ _ pu hL
      walk_at "rd"
      refine ⟨.inl ⟨rfl, _, SqL.of hL⟩, z, rfl, by have := hz.1; have := hz.2.2.2; first | omega | (rw [sizeLine_eq]; omega), fun l hl => ⟨by decide, fun l2 hl2 => ⟨l, rfl, _, same_new hl2 _ _ upd_same, _, upd_same, ?_, fun l3 hl3 => ?_⟩⟩⟩
      · rw [sizeLine_eq]
        have := (hz.row H5).2.2.1
        simp only [List.length_cons, List.length_nil]
        omega
      have s6 : Same H5 (upd (upd (upd H5 l (.lst (z.cps.toList.map fun c => V.str ⟨#[c]⟩))) l2 (.lst [.str "END", .str "END"])) l3 (.lst ((z.cps.toList.map fun c => V.str ⟨#[c]⟩) ++ [.str "END", .str "END"]))) := (same_new hl).trans ((same_new hl2).trans (same_new hl3))
      have w6 := w5.but s6
      have e6 : (upd (upd (upd H5 l (.lst (z.cps.toList.map fun c => V.str ⟨#[c]⟩))) l2 (.lst [.str "END", .str "END"])) l3 (.lst ((z.cps.toList.map fun c => V.str ⟨#[c]⟩) ++ [.str "END", .str "END"]))) l3 = some _ := upd_same
      obtain ⟨q1, q2, q3, q4⟩ := hz.row H5
      refine ⟨u, .ref l3, _, rfl, w6, (fun q => (w5.but ((same_new hl).trans (same_new hl2))).ne hl3 (by cases q; rfl)), .lst e6, by simp only [List.length_append, List.length_cons]; omega, by simp only [List.length_append, List.length_cons, List.length_nil]; omega, fun y3 H7 b7 w7 hy3 => ⟨by decide, fun p3 hp3 => ?_⟩⟩
      obtain ⟨s3, rfl, m3, l3', i3⟩ : ∃ s3 : Str, y3 = .str s3 ∧ smS s3 = true ∧ s3.length ≤ 4 ∧ isGoal (.str s3) = true := by
        rcases List.mem_append.mp hy3 with hy | hy
        · obtain ⟨s, e, h1, h2, h3⟩ := q4 y3 hy
          exact ⟨s, e, h1, by omega, l_goalP h3⟩
        · simp only [List.mem_cons, List.not_mem_nil, or_false, or_self] at hy
          exact ⟨_, hy, by decide +kernel, by decide, g_END⟩
      have b57 : But u H5 H7 := (But.same s6).trans b7
      have hL7 := b57 _ _ pu hL
      have s8 : Same H7 (upd H7 p3 (.tup [.str sg, .str s2, .str s3])) := same_new hp3
      have hL8 := s8 _ _ hL7
      have n3 : p3 ≠ p := (ne_of_none hL7 hp3).symm
      have b37 : But u H3 H7 := b35.trans b57
      have h03 : H p3 = none := but_none (bb3.trans b37) w7 hp3
      have e8 : (upd H7 p3 (HO.tup [.str sg, .str s2, .str s3])) p3 = some (.tup [.str sg, .str s2, .str s3]) := upd_same
      have w3' := wt3 (a := sg) (b := s2) (c := s3) ⟨lg, by omega, l3'⟩
      have b38 : But u H3 (upd H7 p3 (.tup [.str sg, .str s2, .str s3])) := b37.trans (But.same s8)
      have w8 := w7.but s8
      generalize (upd H7 p3 (HO.tup [V.str sg, V.str s2, V.str s3])) = H8 at hL8 e8 b38 w8 ⊢
      have xl := hD.len
      have sn : Same (nw H p H3) (nw H p (upd H8 p (.lst (xs ++ [.ref p3])))) := nw_but (fun p => hw.ne) fun a o h1 h2 e => by
        rw [upd_ne h2]
        exact b38 a o h1 e
      have t8 : Dq K (nw H p (upd H8 p (.lst (xs ++ [.ref p3])))) (.ref p3) (.tuple [.str sg, .str s2, .str s3]) := tup3 ((nw_at n3 h03).trans ((upd_ne n3).trans e8)) mg' m2 m3
      refine ⟨p, xs, _, rfl, rfl, hL8, by rw [sizeLine_eq]; omega, but_new (bb3.trans b38) hp0, w8.put pu, ⟨xs ++ [.ref p3], ds ++ [.tuple [.str sg, .str s2, .str s3]], upd_same, (hD.up sn).append (.cons t8 .nil), by rw [List.length_append, hlen]; rfl, ?_, ?_, ?_⟩, _, _, _, rfl⟩
      · rw [depthAll_append, PyData.depthAll, PyData.depthAll]
        have := w3'.1
        omega
      · rw [wtAll_append, wtAll, wtAll]
        have := w3'.2
        omega
      · intro c hc
        rcases List.mem_append.mp hc with hc | hc
        · exact hcs c hc
        · rw [List.mem_singleton.mp hc]
          exact c_ok ig i2 i3
    · rintro σ H3 ⟨bb3, w3, ⟨xs, ds, hL, hD, hlen, hdp, hwt, hcs⟩, a, b, c, rfl⟩
      refine hU _ _ ?_
      walk_at "rd"
      refine ⟨_, .inl ⟨SqL.of hL, fun l hl => ⟨by decide, fun q hq => ?_⟩⟩⟩
      have s1 : Same H3 (upd H3 l (.tup xs)) := same_new hl
      have s2 : Same (upd H3 l (.tup xs)) (upd (upd H3 l (.tup xs)) q (.tup [.str jt, .ref l])) := same_new hq
      have sj : smS jt = true ∧ jt.length ≤ 3 := by rcases hj with rfl | rfl <;> exact ⟨by decide +kernel, by decide⟩
      refine k _ _ _ (bb3.trans (But.same (s1.trans s2))) (w3.but (s1.trans s2)) (.tup ((newp_at (but_none (bb3.trans (But.same s1)) (w3.but s1) hq)).trans upd_same) (.cons (.str jt sj.1) (.cons (.tup ((newp_at (but_none bb3 w3 hl)).trans (s2 _ _ upd_same)) (hD.up fun a o e => by
        obtain ⟨h1, h2, h3⟩ := nw_some e
        rw [newp_at h2]
        exact s2 _ _ (s1 _ _ h3))) .nil))) ?_ ?_ ?_
      · simp only [PyData.depth, PyData.depthAll]
        omega
      · have := sj.2
        have : wtAll ds ≤ 606 := by omega
        have e : wt (.tuple [.str jt, .tuple ds]) = 3 + (2 + (10 * jt.length + 12) + (2 + (3 + wtAll ds) + 0)) := by simp only [wt, wtAll]
        rw [e]
        omega
      · exact t_ok (by rcases hj with z | z <;> simp [z]) (by rw [hlen]; omega) (by rw [hlen]; omega) (fun z => by have := hjo z; rw [hlen]; omega) hcs
theorem dq_mem {H : Hp} {xs : List V} {ds : List PyData} (hD : DqAll K H xs ds) {y : V} (hy : y ∈ xs) : ∃ d, d ∈ ds ∧ Dq K H y d := by
  obtain ⟨i, hi⟩ := List.mem_iff_getElem?.mp hy
  obtain ⟨d, h1, h2⟩ := hD.atV hi
  exact ⟨d, List.mem_of_getElem? h1, h2⟩
def bdB (n m : Nat) (ds : List PyData) : Bool := ds.all fun d => decide (d.depth ≤ n) && (decide (wt d ≤ m) && (testOfD d).isNone)
/-- one of a menu of data -/
theorem pickD {H : Hp} {u p : Addr} {xs : List V} {ds : List PyData} {n m : Nat} {Q : VK} {E : XK} (hw : WellAt H u) (e : H p = some (.tup xs)) (hD : DqAll K H xs ds) (hb : bdB n m ds = true) (l1 : 1 ≤ xs.length) (l2 : xs.length ≤ 1000)
    (k : ∀ (y : V) (d : PyData) (H' : Hp), But u H H' → WellAt H' u → Dq K H' y d → d.depth ≤ n → wt d ≤ m → testOfD d = none → Q y H') : spPick [.ref u, .ref p] H Q E := by
  have pu : p ≠ u := fun z => by
    obtain ⟨a, b, c, q⟩ := hw
    rw [z, q] at e
    cases e
  refine ⟨u, .ref p, xs, rfl, hw, (fun q => pu (by cases q; rfl)), .tup e, l1, l2, fun y H' b w' hy => ?_⟩
  obtain ⟨d, hd, h⟩ := dq_mem hD hy
  have := List.all_eq_true.mp hb d hd
  obtain ⟨h1, h2⟩ := Bool.and_eq_true_iff.mp this
  obtain ⟨h2, h3⟩ := Bool.and_eq_true_iff.mp h2
  exact k y d H' b w' (dq_but b hw h) (of_decide_eq_true h1) (of_decide_eq_true h2) (Option.isNone_iff_eq_none.mp h3)
def spOdd (K : PySem.W.Frag) : Sp := fun vs H Q _ => ∃ (u : Addr), vs = [.ref u] ∧ WellAt H u ∧ ∀ (x : V) (d : PyData) (H' : Hp), But u H H' → WellAt H' u → Dq K H' x d → d.depth ≤ 3 → wt d ≤ 700 → testOfD d = none → Q x H'
theorem sc_odd : FnScope ["_law_well_here"] ["_law_well_here"] (defScope (top 58)) := ⟨rfl, rfl, rfl, by decide +kernel, rfl, by decide +kernel, by decide +kernel⟩
theorem ok_odd {f : Addr} {fd : FuncData} (T : Tx mg) (F : FD K "_law_odd" (top 58) f fd) {f2 : Addr} {fd2 : FuncData} (C2 : Cal P w K mg base CX0 2 "_law_pick" ["_law_well_here", "_law_some"] spPick f2 fd2) : FnOk P w K mg base CX0 3 f fd ["_law_well_here"] (spOdd K) := by
  obtain ⟨g_law_pick, k_law_pick, b_law_pick, F_law_pick⟩ := C2
  refine F.ok sc_odd (fun vs H Q E h => ?_) (fun cdv A outer s H vs Q E hr h => ?_)
  · obtain ⟨_, rfl, _⟩ := h
    rfl
  · obtain ⟨u, rfl, hw, k⟩ := h
    have nd := sc_odd.nd
    refine ⟨_, (pss_one (ps_ret (pe_call F_law_pick (hr.mono (by omega)) rfl g_law_pick k_law_pick b_law_pick .nil pass0 (pa_cons (pv 0) (pa_cons (pe_tup (pa_cons pe_non (pa_cons pe_bl (pa_cons pe_bl (pa_cons pe_int (pa_cons pe_int (pa_cons pe_str (pa_cons pe_str (pa_cons pe_str (pa_cons (pe_tup pa_nil) (pa_cons (pe_tup (pa_cons pe_str pa_nil)) (pa_cons (pe_tup (pa_cons pe_str (pa_cons pe_str (pa_cons pe_non pa_nil)))) (pa_cons (pe_lst pa_nil) (pa_cons (pe_lst (pa_cons pe_str pa_nil)) (pa_cons pe_dnewK (pa_cons (pe_tup (pa_cons (pe_tup pa_nil) pa_nil)) (pa_cons (pe_un un_neg pe_int) pa_nil))))))))))))))))) pa_nil))))), ?_⟩
    walk_at "rd"
    refine ⟨by decide, fun p1 h1 => ?_⟩
    have s1 := fun o : HO => same_new (o := o) h1
    refine ⟨by decide, fun p2 h2 => ?_⟩
    have s2 := fun o : HO => same_new (o := o) h2
    refine ⟨by decide, fun p3 h3 => ?_⟩
    have s3 := fun o : HO => same_new (o := o) h3
    refine ⟨by decide, fun p4 h4 => ?_⟩
    have s4 := fun o : HO => same_new (o := o) h4
    refine ⟨by decide, fun p5 h5 => ?_⟩
    have s5 := fun o : HO => same_new (o := o) h5
    refine fun p6 h6 => ?_
    have s6 := fun o : HO => same_new (o := o) h6
    refine ⟨by decide, fun p7 h7 => ?_⟩
    have s7 := fun o : HO => same_new (o := o) h7
    refine ⟨by decide, fun p8 h8 => ?_⟩
    have s8 := fun o : HO => same_new (o := o) h8
    refine ⟨by decide, fun p9 h9 => ?_⟩
    have s9 := fun o : HO => same_new (o := o) h9
    refine pickD (K := K) (n := 3) (m := 700) (ds := [.none, .bool true, .bool false, .int (0), .int (3), .str "", .str "X", .str "xy", .tuple [], .tuple [.str "copy"], .tuple [.str "copy", .str "x", .none], .list [], .list [.str "x = y"], .dict [], .tuple [.tuple []], .int (-1)]) (hw.but (Same.trans (Same.trans (Same.trans (Same.trans (Same.trans (Same.trans (Same.trans (Same.trans (s1 _) (s2 _)) (s3 _)) (s4 _)) (s5 _)) (s6 _)) (s7 _)) (s8 _)) (s9 _))) upd_same
      (.cons .non
      (.cons (.bl _)
      (.cons (.bl _)
      (.cons (.int _ (by decide))
      (.cons (.int _ (by decide))
      (.cons (.str _ (by decide +kernel))
      (.cons (.str _ (by decide +kernel))
      (.cons (.str _ (by decide +kernel))
      (.cons (.tup (s9 _ _ _ (s8 _ _ _ (s7 _ _ _ (s6 _ _ _ (s5 _ _ _ (s4 _ _ _ (s3 _ _ _ (s2 _ _ _ upd_same)))))))) .nil)
      (.cons (.tup (s9 _ _ _ (s8 _ _ _ (s7 _ _ _ (s6 _ _ _ (s5 _ _ _ (s4 _ _ _ (s3 _ _ _ upd_same))))))) (.cons (.str _ (by decide +kernel)) .nil))
      (.cons (.tup (s9 _ _ _ (s8 _ _ _ (s7 _ _ _ (s6 _ _ _ (s5 _ _ _ (s4 _ _ _ upd_same)))))) (.cons (.str _ (by decide +kernel)) (.cons (.str _ (by decide +kernel)) (.cons .non .nil))))
      (.cons (.lst (s9 _ _ _ (s8 _ _ _ (s7 _ _ _ (s6 _ _ _ (s5 _ _ _ upd_same))))) (by decide) .nil)
      (.cons (.lst (s9 _ _ _ (s8 _ _ _ (s7 _ _ _ (s6 _ _ _ upd_same)))) (by decide) (.cons (.str _ (by decide +kernel)) .nil))
      (.cons (.dic (s9 _ _ _ (s8 _ _ _ (s7 _ _ _ upd_same))))
      (.cons (.tup (s9 _ _ _ upd_same) (.cons (.tup (s9 _ _ _ (s8 _ _ _ upd_same)) .nil) .nil))
      (.cons (.int _ (by decide))
      .nil)))))))))))))))) (by decide +kernel) (show 1 ≤ 16 by decide) (show 16 ≤ 1000 by decide) fun y d H' b w' hy h1 h2 h3 => ?_
    exact k y d H' (But.trans (But.same (Same.trans (Same.trans (Same.trans (Same.trans (Same.trans (Same.trans (Same.trans (Same.trans (s1 _) (s2 _)) (s3 _)) (s4 _)) (s5 _)) (s6 _)) (s7 _)) (s8 _)) (s9 _))) b) w' hy h1 h2 h3

end
end K40

set_option Elab.async false
set_option linter.all false
set_option maxRecDepth 100000
set_option maxHeartbeats 2000000
/-! the reader of programs as a plain function -/
namespace K40
open PySem PySem.Spec PyProof.Rows L2 Rd Dt Dq TL
abbrev Res := Option (PyData × List Str)
/-- what a deed's words read as -/
def refDeed (ts : List Str) : Res :=
  if ts.headD "" = "drop" then (if isLetterS (ts.tail.headD "") = true then some (.tuple [.str "drop", .str (ts.tail.headD "")], ts.tail.tail) else none)
  else if ts.headD "" = "next" then (if isLetterS (ts.tail.headD "") = true ∧ ts.tail.tail.headD "" = "=" ∧ isGoal (.str (ts.tail.tail.tail.headD "")) = true then some (.tuple [.str "tie", .str (ts.tail.headD ""), .str (ts.tail.tail.tail.headD "")], ts.tail.tail.tail.tail) else none)
  else if isLetterS (ts.headD "") = true ∧ ts.tail.headD "" = "=" then
    (if ts.tail.tail.headD "" = "new" then some (.tuple [.str "new", .str (ts.headD "")], ts.tail.tail.tail)
    else if ts.tail.tail.headD "" = "next" then (if isLetterS (ts.tail.tail.tail.headD "") = true then some (.tuple [.str "next", .str (ts.headD ""), .str (ts.tail.tail.tail.headD "")], ts.tail.tail.tail.tail) else none)
    else if isGoal (.str (ts.tail.tail.headD "")) = true then some (.tuple [.str "copy", .str (ts.headD ""), .str (ts.tail.tail.headD "")], ts.tail.tail.tail) else none)
  else none
def rowsWith (st : List Str → Res) : Nat → List PyData → List Str → Res
  | 0, _, _ => none
  | f + 1, acc, ts => match st ts with
    | none => none
    | some (d, r) => if r.headD "" = ";" then rowsWith st f (acc ++ [d]) r.tail else some (.tuple (acc ++ [d]), r)
def refRows (st : List Str → Res) (ts : List Str) : Res := if ts.headD "" = "none" then some (.tuple [], ts.tail) else rowsWith st (ts.length + 1) [] ts
def refBlock (rows : List Str → Res) (ts : List Str) : Res := if ts.headD "" = "{" then (match rows ts.tail with
  | none => none
  | some (d, r) => if r.headD "" = "}" then some (d, r.tail) else none) else none
def refIf (blk : List Str → Res) (ts : List Str) : Res := match pTest ts with
  | none => none
  | some (q, r) => match blk r with
    | none => none
    | some (a, r2) => if r2.headD "" = "else" then (match blk r2.tail with
      | none => none
      | some (b, r3) => some (.tuple [.str "if", q, a, b], r3)) else some (.tuple [.str "if", q, a, .tuple []], r2)
def refWhile (blk : List Str → Res) (ts : List Str) : Res := match pTest ts with
  | none => none
  | some (q, r) => match blk r with
    | none => none
    | some (a, r2) => some (.tuple [.str "while", q, a], r2)
def refSt : Nat → List Str → Res
  | 0, ts => if ts.headD "" = "if" ∨ ts.headD "" = "while" then none else refDeed ts
  | n + 1, ts => if ts.headD "" = "if" then refIf (refBlock (refRows (refSt n))) ts.tail else if ts.headD "" = "while" then refWhile (refBlock (refRows (refSt n))) ts.tail else refDeed ts
/-- a block's reader by the depth left -/
def refBlk : Nat → List Str → Res
  | 0 => fun _ => none
  | n + 1 => refBlock (refRows (refSt n))
theorem refSt_eq (n : Nat) (ts : List Str) : refSt n ts = if ts.headD "" = "if" then refIf (refBlk n) ts.tail else if ts.headD "" = "while" then refWhile (refBlk n) ts.tail else refDeed ts := by
  cases n with
  | succ n => rfl
  | zero =>
    have e1 : refIf (refBlk 0) ts.tail = none := by
      unfold refIf
      cases pTest ts.tail with
      | none => rfl
      | some x => rfl
    have e2 : refWhile (refBlk 0) ts.tail = none := by
      unfold refWhile
      cases pTest ts.tail with
      | none => rfl
      | some x => rfl
    rw [e1, e2, refSt]
    by_cases h1 : ts.headD "" = "if"
    · rw [if_pos (.inl h1), if_pos h1]
    · by_cases h2 : ts.headD "" = "while"
      · rw [if_pos (.inr h2), if_neg h1, if_pos h2]
      · rw [if_neg (fun z => by rcases z with z | z; exact h1 z; exact h2 z), if_neg h1, if_neg h2]
/-! ### what is read is a tree, and words go -/
def Good (p : PyData → Bool) (st : List Str → Res) : Prop := ∀ ts d r, st ts = some (d, r) → p d = true ∧ r.length < ts.length
theorem ne_len {ts : List Str} (h : ts.headD "" ≠ "") : 1 ≤ ts.length := by
  cases ts with
  | nil => exact absurd rfl h
  | cons _ _ => simp
theorem l_goal {b : Str} (h : isLetterS b = true) : isGoal (.str b) = true := by
  show (isLetterS b || decide (b = "END")) = true
  rw [h]; rfl
theorem d_copy {a b : Str} (ha : isLetterS a = true) (hb : isGoal (.str b) = true) : isDeed (.tuple [.str "copy", .str a, .str b]) = true := by
  show (isLetterS a && (if (("copy" : Str) = "new" ∨ ("copy" : Str) = "drop") then false else (if ("copy" : Str) = "next" then isLetter (.str b) else (decide (("copy" : Str) = "copy") || decide (("copy" : Str) = "tie")) && isGoal (.str b)))) = true
  rw [ha, hb, if_neg (by decide), if_neg (by decide)]; decide
theorem d_tie {a b : Str} (ha : isLetterS a = true) (hb : isGoal (.str b) = true) : isDeed (.tuple [.str "tie", .str a, .str b]) = true := by
  show (isLetterS a && (if (("tie" : Str) = "new" ∨ ("tie" : Str) = "drop") then false else (if ("tie" : Str) = "next" then isLetter (.str b) else (decide (("tie" : Str) = "copy") || decide (("tie" : Str) = "tie")) && isGoal (.str b)))) = true
  rw [ha, hb, if_neg (by decide), if_neg (by decide)]; decide
theorem d_next {a b : Str} (ha : isLetterS a = true) (hb : isLetterS b = true) : isDeed (.tuple [.str "next", .str a, .str b]) = true := by
  show (isLetterS a && (if (("next" : Str) = "new" ∨ ("next" : Str) = "drop") then false else (if ("next" : Str) = "next" then isLetterS b else (decide (("next" : Str) = "copy") || decide (("next" : Str) = "tie")) && isGoal (.str b)))) = true
  rw [ha, hb, if_neg (by decide), if_pos rfl]; rfl
theorem d_new {a : Str} (ha : isLetterS a = true) : isDeed (.tuple [.str "new", .str a]) = true := by
  show (isLetterS a && (if (("new" : Str) = "new" ∨ ("new" : Str) = "drop") then true else false)) = true
  rw [ha, if_pos (.inl rfl)]; rfl
theorem d_drop {a : Str} (ha : isLetterS a = true) : isDeed (.tuple [.str "drop", .str a]) = true := by
  show (isLetterS a && (if (("drop" : Str) = "new" ∨ ("drop" : Str) = "drop") then true else false)) = true
  rw [ha, if_pos (.inr rfl)]; rfl
theorem letter_ne0 {a : Str} (h : isLetterS a = true) : a ≠ "" := fun z => by
  rw [z] at h
  exact absurd (letter_len h) (by decide)
theorem deed_good : Good isDeed refDeed := fun ts d r h => by
  unfold refDeed at h
  have tl1 : ts.tail.headD "" ≠ "" → 2 ≤ ts.length := fun z => by
    have := ne_len z
    rw [List.length_tail] at this
    omega
  have tl2 : ts.tail.tail.headD "" ≠ "" → 3 ≤ ts.length := fun z => by
    have := ne_len z
    simp only [List.length_tail] at this
    omega
  have tl3 : ts.tail.tail.tail.headD "" ≠ "" → 4 ≤ ts.length := fun z => by
    have := ne_len z
    simp only [List.length_tail] at this
    omega
  split at h
  · split at h
    · rename_i h1
      injection h with h
      injection h with h2 h3
      subst h2 h3
      have := tl1 (letter_ne0 h1)
      exact ⟨d_drop h1, by simp only [List.length_tail]; omega⟩
    · cases h
  · split at h
    · split at h
      · rename_i h1
        injection h with h
        injection h with h2 h3
        subst h2 h3
        have := tl1 (letter_ne0 h1.1)
        exact ⟨d_tie h1.1 h1.2.2, by simp only [List.length_tail]; omega⟩
      · cases h
    · split at h
      · rename_i h1
        have l1 := ne_len (letter_ne0 h1.1)
        split at h
        · injection h with h
          injection h with h2 h3
          subst h2 h3
          exact ⟨d_new h1.1, by simp only [List.length_tail]; omega⟩
        · split at h
          · split at h
            · rename_i h4
              injection h with h
              injection h with h2 h3
              subst h2 h3
              exact ⟨d_next h1.1 h4, by simp only [List.length_tail]; omega⟩
            · cases h
          · split at h
            · rename_i h4
              injection h with h
              injection h with h2 h3
              subst h2 h3
              exact ⟨d_copy h1.1 h4, by simp only [List.length_tail]; omega⟩
            · cases h
      · cases h
theorem rowsWith_good {p : PyData → Bool} {st : List Str → Res} (g : Good p st) : ∀ (f : Nat) (acc : List PyData) (ts : List Str) (d : PyData) (r : List Str), (∀ x ∈ acc, p x = true) → rowsWith st f acc ts = some (d, r) → treeOf p d = true ∧ r.length < ts.length
  | 0, _, _, _, _, _, h => by cases h
  | f + 1, acc, ts, d, r, ha, h => by
    rw [rowsWith] at h
    split at h
    · cases h
    · rename_i d1 r1 e
      obtain ⟨g1, g2⟩ := g _ _ _ e
      have ha' : ∀ x ∈ acc ++ [d1], p x = true := fun x hx => by
        rcases List.mem_append.mp hx with hx | hx
        · exact ha x hx
        · rw [List.mem_singleton.mp hx]; exact g1
      split at h
      · obtain ⟨i1, i2⟩ := rowsWith_good g f _ _ _ _ ha' h
        refine ⟨i1, ?_⟩
        rw [List.length_tail] at i2
        omega
      · injection h with h
        injection h with h1 h2
        subst h1 h2
        exact ⟨List.all_eq_true.mpr ha', g2⟩
theorem refRows_good {p : PyData → Bool} {st : List Str → Res} (g : Good p st) : Good (treeOf p) (refRows st) := fun ts d r h => by
  unfold refRows at h
  split at h
  · rename_i hn
    injection h with h
    injection h with h1 h2
    subst h1 h2
    have := ne_len (ts := ts) (by rw [hn]; decide)
    exact ⟨rfl, by rw [List.length_tail]; omega⟩
  · exact rowsWith_good g _ [] _ _ _ (fun _ z => nomatch z) h
theorem refBlock_good {p : PyData → Bool} {rows : List Str → Res} (g : Good p rows) : Good p (refBlock rows) := fun ts d r h => by
  unfold refBlock at h
  split at h
  · rename_i hn
    have l0 := ne_len (ts := ts) (by rw [hn]; decide)
    split at h
    · cases h
    · rename_i d1 r1 e
      obtain ⟨g1, g2⟩ := g _ _ _ e
      rw [List.length_tail] at g2
      split at h
      · injection h with h
        injection h with h1 h2
        subst h1 h2
        exact ⟨g1, by rw [List.length_tail]; omega⟩
      · cases h
  · cases h
theorem pLoop_len : ∀ (n : Nat) (j : Str) (ts : List Str) (j' : Str) (os : List (Option PyData)) (rest : List Str), pLoop n j ts = some (j', os, rest) → rest.length ≤ ts.length ∧ (j = "" ∨ jw j → j' = "" ∨ jw j')
  | 0, j, ts, j', os, rest, h => by
    rw [pLoop] at h
    injection h with h
    injection h with h1 h2
    injection h2 with h2 h3
    subst h1 h3
    exact ⟨Nat.le_refl _, id⟩
  | n + 1, j, ts, j', os, rest, h => by
    rw [pLoop] at h
    split at h
    · rename_i hk
      split at h
      · obtain ⟨⟨j2, os2, r2⟩, h1, h2⟩ := Option.map_eq_some_iff.mp h
        injection h2 with h2 h3
        injection h3 with h3 h4
        have h4' : r2 = rest := h4
        have h2' : j2 = j' := h2
        subst h4' h2'
        obtain ⟨i1, i2⟩ := pLoop_len n _ _ _ _ _ h1
        simp only [List.length_tail] at i1
        exact ⟨by omega, fun _ => i2 (.inr hk)⟩
      · cases h
    · injection h with h
      injection h with h1 h2
      injection h2 with h2 h3
      subst h1 h3
      exact ⟨Nat.le_refl _, id⟩
theorem pTest_good : Good isTest pTest := fun ts d r h => by
  unfold pTest pGo at h
  split at h
  · rename_i j os rest e
    have hl := pLoop_len _ _ _ _ _ _ e
    unfold pFin at h
    split at h
    · rename_i cs ec
      split at h
      · rename_i h3
        injection h with h
        injection h with hd hr
        subst hd hr
        cases c0 : comp3 ts with
        | none => rw [c0] at ec; cases ec
        | some c =>
          rw [c0] at ec
          obtain ⟨cs', e1, rfl⟩ := Option.map_eq_some_iff.mp (show (optAll os).map (c :: ·) = some cs from ec)
          rw [optAll_some e1] at e
          obtain ⟨i1, i2, i3, i4⟩ := pLoop_some _ _ _ _ _ _ e
          obtain ⟨c1, c2⟩ := comp3_some c0
          have ll : rest.length < ts.length := by
            have h0 := hl.1
            obtain ⟨a, m, b, ew, _⟩ := compOf_of c1
            rw [ew] at c2
            have := congrArg List.length c2
            simp only [List.length_append, List.length_cons, List.length_nil, List.length_tail] at this h0
            omega
          refine ⟨?_, ll⟩
          by_cases z : cs' = []
          · have ej := i3 z
            subst z ej
            exact is_test_mk (.inl rfl) (by simp) (by simp) (fun _ => rfl) (fun x hx => by rw [List.mem_singleton.mp hx]; exact c1)
          · obtain ⟨q1, q2⟩ := i4 z
            have jn : j ≠ "" := fun e => by rw [e] at q1; exact absurd q1 (by decide)
            rw [if_neg jn]
            refine is_test_mk q1 (by simp) h3 (fun e => absurd (List.eq_nil_of_length_eq_zero (by simpa using e)) z) (fun x hx => ?_)
            rcases List.mem_cons.mp hx with rfl | hx
            · exact c1
            · exact i2 x hx
      · cases h
    · cases h
  · cases h
theorem deed_isSt {d : PyData} (h : isDeed d = true) : ∀ n, isSt n d = true
  | 0 => h
  | n + 1 => by
    unfold isSt
    rw [h]
    rfl
theorem i_ok {n : Nat} {t a b : PyData} (ht : isTest t = true) (ha : treeOf (isSt n) a = true) (hb : treeOf (isSt n) b = true) : isSt (n + 1) (.tuple [.str "if", t, a, b]) = true := by
  unfold isSt
  simp [ht, ha, hb]
theorem w_ok {n : Nat} {t a : PyData} (ht : isTest t = true) (ha : treeOf (isSt n) a = true) : isSt (n + 1) (.tuple [.str "while", t, a]) = true := by
  unfold isSt
  simp [ht, ha]
theorem refSt_good : ∀ n, Good (isSt n) (refSt n)
  | 0 => fun ts d r h => by
    rw [refSt] at h
    split at h
    · cases h
    · exact deed_good _ _ _ h
  | n + 1 => fun ts d r h => by
    have gb := refBlock_good (refRows_good (refSt_good n))
    rw [refSt] at h
    split at h
    · rename_i hn
      have l0 := ne_len (ts := ts) (by rw [hn]; decide)
      unfold refIf at h
      split at h
      · cases h
      · rename_i q r1 e1
        obtain ⟨t1, t2⟩ := pTest_good _ _ _ e1
        rw [List.length_tail] at t2
        split at h
        · cases h
        · rename_i a r2 e2
          obtain ⟨a1, a2⟩ := gb _ _ _ e2
          split at h
          · split at h
            · cases h
            · rename_i b r3 e3
              obtain ⟨b1, b2⟩ := gb _ _ _ e3
              rw [List.length_tail] at b2
              injection h with h
              injection h with h1 h2
              subst h1 h2
              exact ⟨i_ok t1 a1 b1, by omega⟩
          · injection h with h
            injection h with h1 h2
            subst h1 h2
            exact ⟨i_ok t1 a1 rfl, by omega⟩
    · split at h
      · rename_i hn
        have l0 := ne_len (ts := ts) (by rw [hn]; decide)
        unfold refWhile at h
        split at h
        · cases h
        · rename_i q r1 e1
          obtain ⟨t1, t2⟩ := pTest_good _ _ _ e1
          rw [List.length_tail] at t2
          split at h
          · cases h
          · rename_i a r2 e2
            obtain ⟨a1, a2⟩ := gb _ _ _ e2
            injection h with h
            injection h with h1 h2
            subst h1 h2
            exact ⟨w_ok t1 a1, by omega⟩
      · obtain ⟨g1, g2⟩ := deed_good _ _ _ h
        exact ⟨deed_isSt g1 _, g2⟩
/-- fuel does not matter -/
theorem rowsWith_fuel {p : PyData → Bool} {st : List Str → Res} (g : Good p st) : ∀ (n m : Nat) (acc : List PyData) (ts : List Str), ts.length < n → ts.length < m → rowsWith st n acc ts = rowsWith st m acc ts
  | 0, _, _, _, h, _ => absurd h (Nat.not_lt_zero _)
  | _ + 1, 0, _, _, _, h => absurd h (Nat.not_lt_zero _)
  | n + 1, m + 1, acc, ts, h1, h2 => by
    rw [rowsWith, rowsWith]
    cases e : st ts with
    | none => rfl
    | some x =>
      obtain ⟨d, r⟩ := x
      obtain ⟨_, g2⟩ := g _ _ _ e
      show (if r.headD "" = ";" then rowsWith st n (acc ++ [d]) r.tail else some (.tuple (acc ++ [d]), r)) = (if r.headD "" = ";" then rowsWith st m (acc ++ [d]) r.tail else some (.tuple (acc ++ [d]), r))
      rw [rowsWith_fuel g n m (acc ++ [d]) r.tail (by rw [List.length_tail]; omega) (by rw [List.length_tail]; omega)]
/-! ### what is left is the text's end -/
def Suf (st : List Str → Res) : Prop := ∀ ts d r, st ts = some (d, r) → r <:+ ts
theorem suf1 (ts : List Str) : ts.tail <:+ ts := List.tail_suffix ts
theorem suf_deed : Suf refDeed := fun ts d r h => by
  have s2 := (suf1 ts.tail).trans (suf1 ts)
  have s3 := (suf1 ts.tail.tail).trans s2
  have s4 := (suf1 ts.tail.tail.tail).trans s3
  unfold refDeed at h
  split at h
  · split at h
    · injection h with h
      injection h with h2 h3
      subst h3
      exact s2
    · cases h
  · split at h
    · split at h
      · injection h with h
        injection h with h2 h3
        subst h3
        exact s4
      · cases h
    · split at h
      · split at h
        · injection h with h
          injection h with h2 h3
          subst h3
          exact s3
        · split at h
          · split at h
            · injection h with h
              injection h with h2 h3
              subst h3
              exact s4
            · cases h
          · split at h
            · injection h with h
              injection h with h2 h3
              subst h3
              exact s3
            · cases h
      · cases h
theorem suf_with {st : List Str → Res} (g : Suf st) : ∀ (f : Nat) (acc : List PyData) (ts : List Str) (d : PyData) (r : List Str), rowsWith st f acc ts = some (d, r) → r <:+ ts
  | 0, _, _, _, _, h => by cases h
  | f + 1, acc, ts, d, r, h => by
    rw [rowsWith] at h
    split at h
    · cases h
    · rename_i d1 r1 e
      have g1 := g _ _ _ e
      split at h
      · exact ((suf_with g f _ _ _ _ h).trans (suf1 r1)).trans g1
      · injection h with h
        injection h with h1 h2
        subst h2
        exact g1
theorem suf_rows {st : List Str → Res} (g : Suf st) : Suf (refRows st) := fun ts d r h => by
  unfold refRows at h
  split at h
  · injection h with h
    injection h with h1 h2
    subst h2
    exact suf1 ts
  · exact suf_with g _ _ _ _ _ h
theorem suf_block {rows : List Str → Res} (g : Suf rows) : Suf (refBlock rows) := fun ts d r h => by
  unfold refBlock at h
  split at h
  · split at h
    · cases h
    · rename_i d1 r1 e
      split at h
      · injection h with h
        injection h with h1 h2
        subst h2
        exact ((suf1 r1).trans (g _ _ _ e)).trans (suf1 ts)
      · cases h
  · cases h
theorem suf_loop : ∀ (n : Nat) (j : Str) (ts : List Str) (j' : Str) (os : List (Option PyData)) (rest : List Str), pLoop n j ts = some (j', os, rest) → rest <:+ ts
  | 0, j, ts, j', os, rest, h => by
    rw [pLoop] at h
    injection h with h
    injection h with h1 h2
    injection h2 with h2 h3
    subst h3
    exact List.suffix_refl _
  | n + 1, j, ts, j', os, rest, h => by
    rw [pLoop] at h
    split at h
    · split at h
      · obtain ⟨⟨j2, os2, r2⟩, h1, h2⟩ := Option.map_eq_some_iff.mp h
        injection h2 with h2 h3
        injection h3 with h3 h4
        have h4' : r2 = rest := h4
        subst h4'
        exact (suf_loop n _ _ _ _ _ h1).trans ((suf1 _).trans ((suf1 _).trans ((suf1 _).trans (suf1 ts))))
      · cases h
    · injection h with h
      injection h with h1 h2
      injection h2 with h2 h3
      subst h3
      exact List.suffix_refl _
theorem suf_test : Suf pTest := fun ts d r h => by
  unfold pTest pGo at h
  split at h
  · rename_i j os rest e
    have hl := suf_loop _ _ _ _ _ _ e
    unfold pFin at h
    split at h
    · split at h
      · injection h with h
        injection h with hd hr
        subst hr
        exact hl.trans ((suf1 _).trans ((suf1 _).trans (suf1 ts)))
      · cases h
    · cases h
  · cases h
theorem suf_st : ∀ n, Suf (refSt n)
  | 0 => fun ts d r h => by
    rw [refSt] at h
    split at h
    · cases h
    · exact suf_deed _ _ _ h
  | n + 1 => fun ts d r h => by
    have gb := suf_block (suf_rows (suf_st n))
    rw [refSt] at h
    split at h
    · unfold refIf at h
      split at h
      · cases h
      · rename_i q r1 e1
        have t1 := (suf_test _ _ _ e1).trans (suf1 ts)
        split at h
        · cases h
        · rename_i a r2 e2
          have a1 := (gb _ _ _ e2).trans t1
          split at h
          · split at h
            · cases h
            · rename_i b r3 e3
              injection h with h
              injection h with h1 h2
              subst h2
              exact ((gb _ _ _ e3).trans (suf1 _)).trans a1
          · injection h with h
            injection h with h1 h2
            subst h2
            exact a1
    · split at h
      · unfold refWhile at h
        split at h
        · cases h
        · rename_i q r1 e1
          have t1 := (suf_test _ _ _ e1).trans (suf1 ts)
          split at h
          · cases h
          · rename_i a r2 e2
            injection h with h
            injection h with h1 h2
            subst h2
            exact (gb _ _ _ e2).trans t1
      · exact suf_deed _ _ _ h
/-! ### both test readers, words behind -/
theorem pLoop_ofR {k : Str} (hk : jw k) {rest : List Str} (hr : ¬ jw (rest.headD "")) : ∀ (n : Nat) (cs : List PyData) (j : Str), cs.length < n → (∀ c ∈ cs, isComp c = true) → (j = "" ∨ j = k) → pLoop n j ((cs.flatMap fun c => k :: compW c) ++ rest) = some (if cs = [] then j else k, cs.map some, rest)
  | 0, cs, j, h, _, _ => absurd h (Nat.not_lt_zero _)
  | n + 1, [], j, _, _, _ => by
    rw [show (([] : List PyData).flatMap fun c => k :: compW c) ++ rest = rest from rfl, pLoop, if_neg hr]
    rfl
  | n + 1, c :: cs, j, h, hc, hj => by
    have e : ((c :: cs).flatMap fun c => k :: compW c) ++ rest = k :: (compW c ++ ((cs.flatMap fun c => k :: compW c) ++ rest)) := by
      rw [List.flatMap_cons, List.append_assoc]; rfl
    obtain ⟨c1, c2⟩ := comp3_of (hc c List.mem_cons_self) ((cs.flatMap fun c => k :: compW c) ++ rest)
    rw [e, pLoop, List.headD_cons, List.tail_cons, if_pos hk, if_pos hj, c1, c2, pLoop_ofR hk hr n cs k (by simpa using h) (fun x hx => hc x (List.mem_cons_of_mem _ hx)) (.inr rfl)]
    simp
theorem lLoop_ofR {k : Str} (hk : jw k) {rest : List Str} (hr : ¬ jw (rest.headD "")) : ∀ (n : Nat) (c : PyData) (cs fs : List PyData) (j : Str), cs.length < n → (∀ x ∈ c :: cs, isComp x = true) → (j = "" ∨ j = k) →
    lLoop n j fs (compW c ++ ((cs.flatMap fun c => k :: compW c) ++ rest)) = some (.tuple [.str (if cs = [] then (if j = "" then "and" else j) else k), .tuple (fs ++ c :: cs)], rest)
  | 0, _, cs, _, _, h, _, _ => absurd h (Nat.not_lt_zero _)
  | n + 1, c, [], fs, j, h, hc, hj => by
    obtain ⟨c1, c2⟩ := comp3_of (hc c List.mem_cons_self) rest
    show lLoop (n + 1) j fs (compW c ++ rest) = _
    rw [lLoop, c1, c2]
    refine (if_pos (.inl hr)).trans ?_
    rfl
  | n + 1, c, c' :: cs, fs, j, h, hc, hj => by
    obtain ⟨c1, c2⟩ := comp3_of (hc c List.mem_cons_self) (((c' :: cs).flatMap fun c => k :: compW c) ++ rest)
    have hn : n ≠ 0 := fun z => by rw [z] at h; simp at h
    have kn : k ≠ "" := by rcases hk with rfl | rfl <;> decide
    have e : ((c' :: cs).flatMap fun c => k :: compW c) ++ rest = k :: (compW c' ++ ((cs.flatMap fun c => k :: compW c) ++ rest)) := by
      rw [List.flatMap_cons, List.append_assoc]; rfl
    rw [lLoop, c1, c2, e]
    show (if ¬ jw k ∨ ¬ (j = "" ∨ j = k) ∨ n = 0 then _ else lLoop n k (fs ++ [c]) (compW c' ++ ((cs.flatMap fun c => k :: compW c) ++ rest))) = _
    rw [if_neg (fun z => by rcases z with z | z | z; exact z hk; exact z hj; exact hn z), lLoop_ofR hk hr n c' cs (fs ++ [c]) k (by simpa using h) (fun x hx => hc x (List.mem_cons_of_mem _ hx)) (.inr rfl)]
    rw [if_neg kn]
    simp only [List.append_assoc, List.cons_append, List.nil_append, reduceCtorEq, if_false, ite_self]
theorem flat_lenC {k : Str} (cs : List PyData) (rest : List Str) : cs.length ≤ ((cs.flatMap fun c => k :: compW c) ++ rest).length := by
  induction cs with
  | nil => exact Nat.zero_le _
  | cons x r ih =>
    rw [List.length_append] at ih
    rw [List.flatMap_cons, List.length_append, List.length_append, List.length_cons, List.length_cons]
    omega
theorem pLoop_end : ∀ (n : Nat) (j : Str) (ts : List Str) (j' : Str) (os : List (Option PyData)) (rest : List Str), ts.length < n → pLoop n j ts = some (j', os, rest) → ¬ jw (rest.headD "")
  | 0, _, _, _, _, _, h, _ => absurd h (Nat.not_lt_zero _)
  | n + 1, j, ts, j', os, rest, hl, h => by
    rw [pLoop] at h
    split at h
    · rename_i hk
      have l0 : 1 ≤ ts.length := by
        cases ts with
        | nil => exact absurd hk (by decide)
        | cons _ _ => simp
      split at h
      · obtain ⟨⟨j2, os2, r2⟩, h1, h2⟩ := Option.map_eq_some_iff.mp h
        injection h2 with h2 h3
        injection h3 with h3 h4
        have h4' : r2 = rest := h4
        subst h4'
        exact pLoop_end n _ _ _ _ _ (by simp only [List.length_tail]; omega) h1
      · cases h
    · rename_i hk
      injection h with h
      injection h with h1 h2
      injection h2 with h2 h3
      subst h3
      exact hk
/-- what the words of a test are -/
def Tst (ts : List Str) (d : PyData) (r : List Str) : Prop := ∃ (k : Str) (c : PyData) (cs : List PyData), jw k ∧ (cs = [] → k = "and") ∧ d = .tuple [.str k, .tuple (c :: cs)] ∧ cs.length < 3 ∧ (∀ x ∈ c :: cs, isComp x = true) ∧ ts = compW c ++ ((cs.flatMap fun c => k :: compW c) ++ r)
theorem p_tst {ts : List Str} {d : PyData} {r : List Str} (h : pTest ts = some (d, r)) : Tst ts d r ∧ ¬ jw (r.headD "") := by
  unfold pTest pGo at h
  split at h
  · rename_i j os rest e
    have he := pLoop_end _ _ _ _ _ _ (Nat.lt_succ_self _) e
    unfold pFin at h
    split at h
    · rename_i cs ec
      split at h
      · rename_i h3
        injection h with h
        injection h with hd hr
        subst hd hr
        cases c0 : comp3 ts with
        | none => rw [c0] at ec; cases ec
        | some c =>
          rw [c0] at ec
          obtain ⟨cs', e1, rfl⟩ := Option.map_eq_some_iff.mp (show (optAll os).map (c :: ·) = some cs from ec)
          rw [optAll_some e1] at e
          obtain ⟨i1, i2, i3, i4⟩ := pLoop_some _ _ _ _ _ _ e
          obtain ⟨c1, c2⟩ := comp3_some c0
          have h3' : cs'.length < 3 := by
            rw [List.length_cons] at h3
            omega
          have hc : ∀ x ∈ c :: cs', isComp x = true := fun x hx => by
            rcases List.mem_cons.mp hx with rfl | hx
            · exact c1
            · exact i2 x hx
          refine ⟨?_, he⟩
          by_cases z : cs' = []
          · have ej := i3 z
            subst z ej
            refine ⟨"and", c, [], .inl rfl, fun _ => rfl, by rw [if_pos rfl], by decide, hc, ?_⟩
            rw [i1] at c2
            exact c2
          · obtain ⟨q1, q2⟩ := i4 z
            have jn : j ≠ "" := fun e => by rw [e] at q1; exact absurd q1 (by decide)
            refine ⟨j, c, cs', q1, fun y => absurd y z, by rw [if_neg jn], h3', hc, ?_⟩
            rw [i1] at c2
            exact c2
      · cases h
    · cases h
  · cases h
theorem l_tst {ts : List Str} {d : PyData} {r : List Str} (h : lTest ts = some (d, r)) : Tst ts d r := by
  obtain ⟨k, c, cs, rfl, h1, h2, h3, h4, h5⟩ := lLoop_some _ _ _ _ _ _ (.inl rfl) h
  rw [List.append_assoc] at h3
  by_cases z : cs = []
  · have := h4 z
    subst this z
    exact ⟨"and", c, [], .inl rfl, fun _ => rfl, by rw [if_pos rfl]; rfl, by decide, h2, h3⟩
  · obtain ⟨q1, _⟩ := h5 z
    have kn : k ≠ "" := by rcases q1 with rfl | rfl <;> decide
    exact ⟨k, c, cs, q1, fun y => absurd y z, by rw [if_neg kn]; rfl, by simpa using h1, h2, h3⟩
theorem tst_p {ts : List Str} {d : PyData} {r : List Str} (h : Tst ts d r) (hr : ¬ jw (r.headD "")) : pTest ts = some (d, r) := by
  obtain ⟨k, c, cs, hk, hka, rfl, hl, hc, rfl⟩ := h
  obtain ⟨c1, c2⟩ := comp3_of (hc c List.mem_cons_self) ((cs.flatMap fun c => k :: compW c) ++ r)
  unfold pTest pGo
  rw [c1, c2, pLoop_ofR hk hr _ cs "" (Nat.lt_succ_of_le (flat_lenC cs r)) (fun x hx => hc x (List.mem_cons_of_mem _ hx)) (.inl rfl)]
  show pFin (if cs = [] then "" else k) (some c :: cs.map some) r = _
  unfold pFin
  rw [show optAll (some c :: cs.map some) = some (c :: cs) from optAll_map (c :: cs)]
  show (if (c :: cs).length ≤ 3 then _ else _) = _
  rw [if_pos (show (c :: cs).length ≤ 3 by rw [List.length_cons]; omega)]
  by_cases z : cs = []
  · rw [if_pos z, if_pos rfl, hka z]
  · have kn : k ≠ "" := by rcases hk with rfl | rfl <;> decide
    rw [if_neg z, if_neg kn]
theorem tst_l {ts : List Str} {d : PyData} {r : List Str} (h : Tst ts d r) (hr : ¬ jw (r.headD "")) : lTest ts = some (d, r) := by
  obtain ⟨k, c, cs, hk, hka, rfl, hl, hc, rfl⟩ := h
  unfold lTest
  rw [lLoop_ofR hk hr 3 c cs [] "" hl hc (.inl rfl)]
  by_cases z : cs = []
  · rw [if_pos z, if_pos rfl, hka z]
    rfl
  · rw [if_neg z]
    rfl
theorem p_to_l {ts : List Str} {d : PyData} {r : List Str} (h : pTest ts = some (d, r)) : lTest ts = some (d, r) := tst_l (p_tst h).1 (p_tst h).2
theorem l_to_p {ts : List Str} {d : PyData} {r : List Str} (h : lTest ts = some (d, r)) (hr : ¬ jw (r.headD "")) : pTest ts = some (d, r) := tst_p (l_tst h) hr
end K40

set_option Elab.async false
set_option linter.all false
set_option maxRecDepth 100000
set_option maxHeartbeats 2000000
/-! what stands in a program, as plain functions -/
namespace K40
open PySem PySem.Spec PyProof.Rows L2 Rd Dt Dq TL
/-! ### letters -/
def sg (c : Nat) : Str := ⟨#[c]⟩
def abcL : List Str := abc.cps.toList.map sg
def letL (ws : List Str) : List Str := abcL.filter fun c => decide (c ∈ ws)
theorem sg_inj {a b : Nat} (h : sg a = sg b) : a = b := by
  unfold sg at h
  injection h with h
  simpa using h
theorem mem_abcL {s : Str} : s ∈ abcL ↔ isLetterS s = true := by
  constructor
  · intro h
    obtain ⟨c, hc, rfl⟩ := List.mem_map.mp h
    show decide (c ∈ abc.cps.toList) = true
    exact decide_eq_true hc
  · intro h
    unfold isLetterS at h
    split at h
    · rename_i c e
      refine List.mem_map.mpr ⟨c, of_decide_eq_true h, ?_⟩
      cases s with
      | mk cs =>
        cases cs with
        | mk l =>
          have e' : l = [c] := e
          rw [e']; rfl
    · cases h
theorem END_abcL : ("END" : Str) ∉ abcL := fun h => absurd (mem_abcL.mp h) (by decide +kernel)
theorem abc_lt : abc.cps.toList.Pairwise (· < ·) := by decide +kernel
theorem rising : ∀ (cs : List Nat) (p : Nat), risingS (sg p) (cs.map sg) = true → (p :: cs).Pairwise (· ≤ ·)
  | [], p, _ => List.pairwise_singleton _ _
  | c :: cs, p, h => by
    rw [List.map_cons, risingS, Bool.and_eq_true] at h
    have ih := rising cs c h.2
    have h1 : p ≤ c := by
      have h0 := h.1
      have e : ltCps (sg c).cps.toList (sg p).cps.toList = (decide (c < p) || ((c == p) && ltCps [] [])) := rfl
      rw [e] at h0
      have : ¬ c < p := fun z => by rw [decide_eq_true z] at h0; cases h0
      omega
    refine List.pairwise_cons.mpr ⟨fun x hx => ?_, ih⟩
    rcases List.mem_cons.mp hx with rfl | hx
    · exact h1
    · exact Nat.le_trans h1 ((List.pairwise_cons.mp ih).1 x hx)
theorem uniq : ∀ (xs ys : List Nat), xs.Pairwise (· < ·) → ys.Pairwise (· < ·) → (∀ x, x ∈ xs ↔ x ∈ ys) → xs = ys
  | [], [], _, _, _ => rfl
  | [], y :: ys, _, _, h => by have := (h y).mpr List.mem_cons_self; cases this
  | x :: xs, [], _, _, h => by have := (h x).mp List.mem_cons_self; cases this
  | x :: xs, y :: ys, p, q, h => by
    obtain ⟨p1, p2⟩ := List.pairwise_cons.mp p
    obtain ⟨q1, q2⟩ := List.pairwise_cons.mp q
    have e : x = y := by
      rcases List.mem_cons.mp ((h x).mp List.mem_cons_self) with z | z
      · exact z
      · rcases List.mem_cons.mp ((h y).mpr List.mem_cons_self) with w | w
        · exact w.symm
        · have := q1 x z
          have := p1 y w
          omega
    subst e
    rw [uniq xs ys p2 q2 fun z => ⟨fun hz => ?_, fun hz => ?_⟩]
    · rcases List.mem_cons.mp ((h z).mp (List.mem_cons_of_mem _ hz)) with w | w
      · have := p1 z hz; omega
      · exact w
    · rcases List.mem_cons.mp ((h z).mpr (List.mem_cons_of_mem _ hz)) with w | w
      · have := q1 z hz; omega
      · exact w
/-- the keys that stand for the letters among these words -/
structure KS (ks ws : List Str) : Prop where
  nd : ks.Nodup
  m : ∀ c, c ∈ ks ↔ c ∈ abcL ∧ c ∈ ws
theorem KS.nil : KS [] [] := ⟨List.nodup_nil, fun c => ⟨fun z => (nomatch z), fun z => nomatch z.2⟩⟩
theorem KS.congr {ks ws vs : List Str} (h : KS ks ws) (e : ∀ c ∈ abcL, c ∈ ws ↔ c ∈ vs) : KS ks vs :=
  ⟨h.nd, fun c => (h.m c).trans ⟨fun z => ⟨z.1, (e c z.1).mp z.2⟩, fun z => ⟨z.1, (e c z.1).mpr z.2⟩⟩⟩
theorem KS.add {ks ws : List Str} (h : KS ks ws) {c : Str} (hc : isLetterS c = true) : KS (if c ∈ ks then ks else ks ++ [c]) (ws ++ [c]) := by
  have hm := mem_abcL.mpr hc
  by_cases z : c ∈ ks
  · rw [if_pos z]
    refine ⟨h.nd, fun x => (h.m x).trans ⟨fun w => ⟨w.1, List.mem_append_left _ w.2⟩, fun w => ⟨w.1, ?_⟩⟩⟩
    rcases List.mem_append.mp w.2 with v | v
    · exact v
    · rw [List.mem_singleton.mp v]; exact ((h.m c).mp z).2
  · rw [if_neg z]
    refine ⟨List.nodup_append.mpr ⟨h.nd, by simp, fun a ha b hb => ?_⟩, fun x => ?_⟩
    · rw [List.mem_singleton.mp hb]
      intro e
      rw [e] at ha
      exact z ha
    · rw [List.mem_append, List.mem_append, List.mem_singleton, h.m x]
      constructor
      · rintro (w | w)
        · exact ⟨w.1, .inl w.2⟩
        · rw [w]; exact ⟨hm, .inr rfl⟩
      · rintro ⟨w, v | v⟩
        · exact .inl ⟨w, v⟩
        · exact .inr v
theorem KS.goal {ks ws : List Str} (h : KS ks ws) : KS ks (ws ++ [("END" : Str)]) := h.congr fun c hc => by
  rw [List.mem_append, List.mem_singleton]
  exact ⟨.inl, fun z => z.elim id fun e => absurd hc (by rw [e]; exact END_abcL)⟩
theorem nodup_map_sg : ∀ {cs : List Nat}, (cs.map sg).Nodup → cs.Nodup
  | [], _ => List.nodup_nil
  | c :: cs, h => by
    rw [List.map_cons, List.nodup_cons] at h
    exact List.nodup_cons.mpr ⟨fun z => h.1 (List.mem_map_of_mem z), nodup_map_sg h.2⟩
theorem lt_of_le_nd : ∀ {cs : List Nat}, cs.Pairwise (· ≤ ·) → cs.Nodup → cs.Pairwise (· < ·)
  | [], _, _ => .nil
  | c :: cs, h, g => by
    obtain ⟨h1, h2⟩ := List.pairwise_cons.mp h
    obtain ⟨g1, g2⟩ := List.nodup_cons.mp g
    refine List.pairwise_cons.mpr ⟨fun x hx => ?_, lt_of_le_nd h2 g2⟩
    have := h1 x hx
    have : c ≠ x := fun e => g1 (by rw [e]; exact hx)
    omega
theorem KS.sort {ks ws ys : List Str} (h : KS ks ws) (hp : ys.Perm ks) (hs : sortedS ys = true) : ys = letL ws := by
  have hsg : ∀ y ∈ ys, ∃ c, c ∈ abc.cps.toList ∧ sg c = y := fun y hy => List.mem_map.mp ((h.m y).mp (hp.mem_iff.mp hy)).1
  have ecs : ∀ l : List Str, (∀ y ∈ l, ∃ c, c ∈ abc.cps.toList ∧ sg c = y) → ∃ cs : List Nat, l = cs.map sg := fun l => by
    induction l with
    | nil => exact fun _ => ⟨[], rfl⟩
    | cons x r ih =>
      intro g
      obtain ⟨cs, e⟩ := ih fun y hy => g y (List.mem_cons_of_mem _ hy)
      obtain ⟨c, _, e2⟩ := g x List.mem_cons_self
      exact ⟨c :: cs, by rw [List.map_cons, e2, ← e]⟩
  obtain ⟨cs, rfl⟩ := ecs ys hsg
  have p1 : cs.Pairwise (· ≤ ·) := by
    cases cs with
    | nil => exact .nil
    | cons c cs => exact rising cs c hs
  have p2 : cs.Pairwise (· < ·) := lt_of_le_nd p1 (nodup_map_sg (hp.nodup_iff.mpr h.nd))
  have e3 : letL ws = (abc.cps.toList.filter fun c => decide (sg c ∈ ws)).map sg := by
    unfold letL abcL
    rw [List.filter_map]; rfl
  rw [e3]
  congr 1
  refine uniq _ _ p2 (abc_lt.filter _) fun x => ?_
  rw [List.mem_filter, decide_eq_true_eq]
  have hx : sg x ∈ cs.map sg ↔ x ∈ cs := ⟨fun z => by
    obtain ⟨c, h1, h2⟩ := List.mem_map.mp z
    rw [← sg_inj h2]; exact h1, List.mem_map_of_mem⟩
  rw [← hx, hp.mem_iff, h.m]
  have ha : sg x ∈ abcL ↔ x ∈ abc.cps.toList := ⟨fun z => by
    obtain ⟨c, h1, h2⟩ := List.mem_map.mp z
    rw [← sg_inj h2]; exact h1, fun z => List.mem_map_of_mem z⟩
  rw [ha]
theorem KS.len {ks ws : List Str} (h : KS ks ws) : ks.length ≤ 26 := by
  have e : abcL.length = 26 := by decide +kernel
  have key : ∀ (xs ys : List Str), xs.Nodup → (∀ x ∈ xs, x ∈ ys) → xs.length ≤ ys.length := fun xs => by
    induction xs with
    | nil => exact fun _ _ _ => Nat.zero_le _
    | cons x xs ih =>
      intro ys hn hs
      obtain ⟨h1, h2⟩ := List.nodup_cons.mp hn
      have hx := hs x List.mem_cons_self
      have := ih (ys.erase x) h2 fun y hy => (List.mem_erase_of_ne (fun z => h1 (by rw [← z]; exact hy))).mpr (hs y (List.mem_cons_of_mem _ hy))
      rw [List.length_erase_of_mem hx] at this
      have := List.length_pos_of_mem hx
      rw [List.length_cons]
      omega
  rw [← e]
  exact key _ _ h.nd fun c hc => ((h.m c).mp hc).1
theorem letL_congr {ws vs : List Str} (e : ∀ c ∈ abcL, c ∈ ws ↔ c ∈ vs) : letL ws = letL vs := by
  unfold letL
  refine List.filter_congr fun c hc => ?_
  rw [decide_eq_decide]
  exact e c hc
theorem mem_letL {ws : List Str} {c : Str} : c ∈ letL ws ↔ c ∈ abcL ∧ c ∈ ws := by
  unfold letL
  rw [List.mem_filter, decide_eq_true_eq]
theorem letL_len (ws : List Str) : (letL ws).length ≤ 26 := Nat.le_trans (List.length_filter_le _ _) (by decide +kernel)
theorem letL_letter {ws : List Str} {c : Str} (h : c ∈ letL ws) : isLetterS c = true := mem_abcL.mp (mem_letL.mp h).1
/-! ### of trees -/
def stOf : PyData → List Str
  | .str s => [s]
  | _ => []
def wordsOf : PyData → List Str
  | .tuple (_ :: r) => r.flatMap stOf
  | _ => []
def testL : PyData → List Str
  | .tuple [_, .tuple cs] => cs.flatMap wordsOf
  | _ => []
def treeL {α : Type} (f : PyData → List α) : PyData → List α
  | .tuple ds => ds.flatMap f
  | _ => []
def stL : Nat → PyData → List Str
  | 0, d => wordsOf d
  | n + 1, d => match d with
    | .tuple [.str k, t, a, b] => if k = "if" then testL t ++ (treeL (stL n) a ++ treeL (stL n) b) else wordsOf d
    | .tuple [.str k, t, a] => if k = "while" then testL t ++ treeL (stL n) a else wordsOf d
    | _ => wordsOf d
def stD : Nat → PyData → List PyData
  | 0, d => [d]
  | n + 1, d => match d with
    | .tuple [.str k, t, a, b] => if k = "if" then treeL (stD n) a ++ treeL (stD n) b else [d]
    | .tuple [.str k, t, a] => if k = "while" then treeL (stD n) a else [d]
    | _ => [d]
def treeN (f : PyData → Nat) : PyData → Nat
  | .tuple ds => ds.foldl (fun m d => max m (f d)) 0
  | _ => 0
def stN : Nat → PyData → Nat
  | 0, _ => 0
  | n + 1, d => match d with
    | .tuple [.str k, t, a, b] => if k = "if" then max (treeN (stN n) a) (treeN (stN n) b) else 0
    | .tuple [.str k, t, a] => if k = "while" then treeN (stN n) a + 1 else 0
    | _ => 0
theorem deed_flat {d : PyData} (h : isDeed d = true) (n : Nat) : stL n d = wordsOf d ∧ stD n d = [d] ∧ stN n d = 0 := by
  cases n with
  | zero => exact ⟨rfl, rfl, rfl⟩
  | succ n =>
    rcases deed_cases h with ⟨k, a, rfl, _, _⟩ | ⟨k, a, b, rfl, _, hk⟩
    · exact ⟨rfl, rfl, rfl⟩
    · have nw : k ≠ "while" := by
        rcases hk with ⟨rfl, _⟩ | ⟨rfl | rfl, _⟩ <;> decide
      exact ⟨if_neg nw, if_neg nw, if_neg nw⟩
theorem stL_if {n : Nat} {t a b : PyData} : stL (n + 1) (.tuple [.str "if", t, a, b]) = testL t ++ (treeL (stL n) a ++ treeL (stL n) b) := by rw [stL]; exact if_pos rfl
theorem stL_while {n : Nat} {t a : PyData} : stL (n + 1) (.tuple [.str "while", t, a]) = testL t ++ treeL (stL n) a := by rw [stL]; exact if_pos rfl
theorem stD_if {n : Nat} {t a b : PyData} : stD (n + 1) (.tuple [.str "if", t, a, b]) = treeL (stD n) a ++ treeL (stD n) b := by rw [stD]; exact if_pos rfl
theorem stD_while {n : Nat} {t a : PyData} : stD (n + 1) (.tuple [.str "while", t, a]) = treeL (stD n) a := by rw [stD]; exact if_pos rfl
theorem stN_if {n : Nat} {t a b : PyData} : stN (n + 1) (.tuple [.str "if", t, a, b]) = max (treeN (stN n) a) (treeN (stN n) b) := by rw [stN]; exact if_pos rfl
theorem stN_while {n : Nat} {t a : PyData} : stN (n + 1) (.tuple [.str "while", t, a]) = treeN (stN n) a + 1 := by rw [stN]; exact if_pos rfl
/-! ### a printed program is read again -/
theorem test_read {t : PyData} {r : List Str} (h : isTest t = true) (hr : ¬ jw (r.headD "")) : pTest (testW t ++ r) = some (t, r) := by
  obtain ⟨k, cs, rfl, hk, hl, hc⟩ := test_cases h
  cases cs with
  | nil => exact absurd hl.1 (by simp)
  | cons c cs =>
    refine tst_p ⟨k, c, cs, hk, fun e => ?_, rfl, by have := hl.2; simp only [List.length_cons] at this; omega, hc, by rw [testW_cons, List.append_assoc]⟩ hr
    subst e
    rcases hk with rfl | rfl
    · rfl
    · exact absurd h (by
        show ¬ ((decide (("or" : Str) = "and") || decide (("or" : Str) = "or")) && (decide (1 ≤ [c].length ∧ [c].length ≤ 3) && (!(decide ([c].length = 1) && decide (("or" : Str) = "or")) && [c].all isComp))) = true
        have e1 : decide ([c].length = 1) = true := decide_eq_true rfl
        have e2 : decide (("or" : Str) = "or") = true := decide_eq_true rfl
        rw [e1, e2]
        simp)
theorem l_ne {a b : Str} (h : isLetterS a = true) (hb : b.length ≠ 1) : a ≠ b := fun z => hb (by rw [← z]; exact letter_len h)
theorem deed_read {d : PyData} (h : isDeed d = true) (r : List Str) : refDeed (deedW d ++ r) = some (d, r) ∧ (deedW d ++ r).headD "" ≠ "if" ∧ (deedW d ++ r).headD "" ≠ "while" ∧ (deedW d ++ r).headD "" ≠ "none" ∧ deedW d ≠ [] := by
  rcases deed_cases h with ⟨k, a, rfl, ha, hk⟩ | ⟨k, a, b, rfl, ha, hk⟩
  · have n1 := l_ne (b := "drop") ha (by decide)
    have n2 := l_ne (b := "next") ha (by decide)
    have n3 := l_ne (b := "if") ha (by decide)
    have n4 := l_ne (b := "while") ha (by decide)
    have n5 := l_ne (b := "none") ha (by decide)
    rcases hk with rfl | rfl
    · have e : deedW (.tuple [.str "new", .str a]) = ([a, "=", "new"] : List Str) := by unfold deedW; exact if_pos rfl
      rw [e]
      refine ⟨?_, n3, n4, n5, by simp⟩
      show (if a = "drop" then _ else if a = "next" then _ else if isLetterS a = true ∧ ("=" : Str) = "=" then (if ("new" : Str) = "new" then _ else _) else _) = _
      rw [if_neg n1, if_neg n2, if_pos ⟨ha, rfl⟩, if_pos rfl]
      rfl
    · have e : deedW (.tuple [.str "drop", .str a]) = (["drop", a] : List Str) := by unfold deedW; exact if_neg (by decide)
      rw [e]
      refine ⟨?_, (by decide : ("drop" : Str) ≠ "if"), (by decide : ("drop" : Str) ≠ "while"), (by decide : ("drop" : Str) ≠ "none"), by simp⟩
      show (if ("drop" : Str) = "drop" then (if isLetterS a = true then _ else _) else _) = _
      rw [if_pos rfl, if_pos ha]
      rfl
  · have n1 := l_ne (b := "drop") ha (by decide)
    have n2 := l_ne (b := "next") ha (by decide)
    have n3 := l_ne (b := "if") ha (by decide)
    have n4 := l_ne (b := "while") ha (by decide)
    have n5 := l_ne (b := "none") ha (by decide)
    rcases hk with ⟨rfl, hb⟩ | ⟨rfl | rfl, hb⟩
    · have e : deedW (.tuple [.str "next", .str a, .str b]) = ([a, "=", "next", b] : List Str) := by unfold deedW; exact if_pos rfl
      rw [e]
      refine ⟨?_, n3, n4, n5, by simp⟩
      show (if a = "drop" then _ else if a = "next" then _ else if isLetterS a = true ∧ ("=" : Str) = "=" then (if ("next" : Str) = "new" then _ else if ("next" : Str) = "next" then (if isLetterS b = true then _ else _) else _) else _) = _
      rw [if_neg n1, if_neg n2, if_pos ⟨ha, rfl⟩, if_neg (by decide), if_pos rfl, if_pos hb]
      rfl
    · have e : deedW (.tuple [.str "copy", .str a, .str b]) = ([a, "=", b] : List Str) := by unfold deedW; exact (if_neg (by decide)).trans (if_neg (by decide))
      have hb1 : b ≠ "new" ∧ b ≠ "next" := by
        have e : (isLetterS b || decide (b = "END")) = true := hb
        rcases Bool.or_eq_true_iff.mp e with z | z
        · exact ⟨l_ne z (by decide), l_ne z (by decide)⟩
        · rw [of_decide_eq_true z]; exact ⟨by decide, by decide⟩
      rw [e]
      refine ⟨?_, n3, n4, n5, by simp⟩
      show (if a = "drop" then _ else if a = "next" then _ else if isLetterS a = true ∧ ("=" : Str) = "=" then (if b = "new" then _ else if b = "next" then _ else if isGoal (.str b) = true then _ else _) else _) = _
      rw [if_neg n1, if_neg n2, if_pos ⟨ha, rfl⟩, if_neg hb1.1, if_neg hb1.2, if_pos hb]
      rfl
    · have e : deedW (.tuple [.str "tie", .str a, .str b]) = (["next", a, "=", b] : List Str) := by unfold deedW; exact (if_neg (by decide)).trans (if_pos rfl)
      rw [e]
      refine ⟨?_, (by decide : ("next" : Str) ≠ "if"), (by decide : ("next" : Str) ≠ "while"), (by decide : ("next" : Str) ≠ "none"), by simp⟩
      show (if ("next" : Str) = "drop" then _ else if ("next" : Str) = "next" then (if isLetterS a = true ∧ ("=" : Str) = "=" ∧ isGoal (.str b) = true then _ else _) else _) = _
      rw [if_neg (by decide), if_pos rfl, if_pos ⟨ha, rfl, hb⟩]
      rfl
/-- what may stand behind a statement -/
def Aft (r : List Str) : Prop := r.headD "" = "" ∨ r.headD "" = ";" ∨ r.headD "" = "}"
def Reads1 (st : List Str → Res) (g : PyData → List Str) (d : PyData) : Prop := g d ≠ [] ∧ ∀ r, (g d ++ r).headD "" ≠ "none" ∧ (Aft r → st (g d ++ r) = some (d, r))
theorem rows_read {st : List Str → Res} {g : PyData → List Str} : ∀ (ds : List PyData) (acc : List PyData) (f : Nat) (r : List Str), (∀ d ∈ ds, Reads1 st g d) → ds ≠ [] → ds.length ≤ f → (r.headD "" = "" ∨ r.headD "" = "}") →
    rowsWith st f acc (joinW ";" (ds.map g) ++ r) = some (.tuple (acc ++ ds), r)
  | [], _, _, _, _, h, _, _ => absurd rfl h
  | [d], acc, f, r, h, _, hf, hr => by
    obtain ⟨f, rfl⟩ : ∃ f', f = f' + 1 := ⟨f - 1, by simp only [List.length_cons, List.length_nil] at hf; omega⟩
    have h1 := (h d List.mem_cons_self).2 r
    show rowsWith st (f + 1) acc (g d ++ r) = _
    rw [rowsWith, h1.2 (hr.elim .inl fun z => .inr (.inr z))]
    show (if r.headD "" = ";" then _ else _) = _
    rw [if_neg (by rcases hr with z | z <;> (rw [z]; decide))]
  | d :: e :: ds, acc, f, r, h, _, hf, hr => by
    obtain ⟨f, rfl⟩ : ∃ f', f = f' + 1 := ⟨f - 1, by simp only [List.length_cons] at hf; omega⟩
    have h1 := (h d List.mem_cons_self).2 (";" :: (joinW ";" ((e :: ds).map g) ++ r))
    have ej : joinW ";" ((d :: e :: ds).map g) ++ r = g d ++ ((";" : Str) :: (joinW ";" ((e :: ds).map g) ++ r)) := by
      show (g d ++ ((";" : Str) :: joinW ";" ((e :: ds).map g))) ++ r = _
      rw [List.append_assoc]; rfl
    rw [ej, rowsWith, h1.2 (.inr (.inl rfl))]
    show (if (";" : Str) = ";" then rowsWith st f (acc ++ [d]) (joinW ";" ((e :: ds).map g) ++ r) else _) = _
    rw [if_pos rfl, rows_read (e :: ds) (acc ++ [d]) f r (fun x hx => h x (List.mem_cons_of_mem _ hx)) (by simp) (by simp only [List.length_cons] at hf ⊢; omega) hr, List.append_assoc]
    rfl
theorem joinW_len {g : PyData → List Str} : ∀ (ds : List PyData), (∀ d ∈ ds, g d ≠ []) → ds.length ≤ (joinW ";" (ds.map g)).length
  | [], _ => Nat.le_refl _
  | [d], h => by
    have := List.length_pos_iff.mpr (h d List.mem_cons_self)
    exact this
  | d :: e :: ds, h => by
    have := joinW_len (e :: ds) fun x hx => h x (List.mem_cons_of_mem _ hx)
    show _ ≤ (g d ++ ((";" : Str) :: joinW ";" ((e :: ds).map g))).length
    rw [List.length_append, List.length_cons]
    simp only [List.length_cons] at this ⊢
    omega
theorem tree_read {st : List Str → Res} {g : PyData → List Str} {p : PyData → Bool} (ih : ∀ d, p d = true → Reads1 st g d) {d : PyData} (h : treeOf p d = true) {r : List Str} (hr : r.headD "" = "" ∨ r.headD "" = "}") : refRows st (treeW g d ++ r) = some (d, r) := by
  cases d with
  | tuple ds =>
    have hp : ∀ d ∈ ds, Reads1 st g d := fun x hx => ih x (List.all_eq_true.mp h x hx)
    cases ds with
    | nil => rfl
    | cons d ds =>
      have e : treeW g (.tuple (d :: ds)) = joinW ";" ((d :: ds).map g) := by unfold treeW; exact if_neg (by simp)
      have hd : (joinW ";" ((d :: ds).map g) ++ r).headD "" ≠ "none" := by
        cases ds with
        | nil => exact ((hp d List.mem_cons_self).2 r).1
        | cons x xs =>
          have ej : joinW ";" ((d :: x :: xs).map g) ++ r = g d ++ ((";" : Str) :: (joinW ";" ((x :: xs).map g) ++ r)) := by
            show (g d ++ ((";" : Str) :: joinW ";" ((x :: xs).map g))) ++ r = _
            rw [List.append_assoc]; rfl
          rw [ej]
          exact ((hp d List.mem_cons_self).2 _).1
      rw [e]
      unfold refRows
      rw [if_neg hd]
      have hl := joinW_len (g := g) (d :: ds) fun x hx => (hp x hx).1
      refine rows_read (d :: ds) [] _ r hp (by simp) ?_ hr
      rw [List.length_append]
      omega
  | _ => cases h
theorem block_read {rows : List Str → Res} {ws : List Str} {a : PyData} {r : List Str} (h : rows (ws ++ ("}" : Str) :: r) = some (a, ("}" : Str) :: r)) : refBlock rows (("{" : Str) :: (ws ++ ("}" : Str) :: r)) = some (a, r) := by
  unfold refBlock
  rw [if_pos (show ((("{" : Str) :: (ws ++ ("}" : Str) :: r)).headD "") = "{" from rfl)]
  show (match rows (ws ++ ("}" : Str) :: r) with
    | none => none
    | some (d, r) => if r.headD "" = "}" then some (d, r.tail) else none) = _
  rw [h]
  exact if_pos rfl
theorem st_read : ∀ (n : Nat) (d : PyData), isSt n d = true → Reads1 (refSt n) (stW false n) d
  | 0, d, h => by
    have hd := deed_read (d := d) h
    refine ⟨(hd []).2.2.2.2, fun r => ⟨(hd r).2.2.2.1, fun _ => ?_⟩⟩
    show refSt 0 (deedW d ++ r) = _
    rw [refSt, if_neg (fun z => z.elim (hd r).2.1 (hd r).2.2.1)]
    exact (hd r).1
  | n + 1, d, h => by
    have nj : ∀ r : List Str, ¬ jw ((("{" : Str) :: r).headD "") := fun r z => by
      rcases z with z | z
      · exact absurd z (show ¬ ("{" : Str) = "and" by decide)
      · exact absurd z (show ¬ ("{" : Str) = "or" by decide)
    rcases st_cases h with z | ⟨t, a, b, rfl, ht, ha, hb⟩ | ⟨t, a, rfl, ht, ha⟩
    · have hd := deed_read z
      have e := (deed_st z false (n + 1)).1
      unfold Reads1
      rw [e]
      refine ⟨(hd []).2.2.2.2, fun r => ⟨(hd r).2.2.2.1, fun _ => ?_⟩⟩
      rw [refSt_eq, if_neg (hd r).2.1, if_neg (hd r).2.2.1]
      exact (hd r).1
    · refine ⟨by rw [stW_if]; simp, fun r => ⟨by rw [stW_if]; exact (by decide : ("if" : Str) ≠ "none"), fun hr => ?_⟩⟩
      have e : stW false (n + 1) (.tuple [.str "if", t, a, b]) ++ r = ("if" : Str) :: (testW t ++ (("{" : Str) :: (treeW (stW false n) a ++ (("}" : Str) :: (elseW false (stW false n) b ++ r))))) := by
        rw [stW_if]
        simp only [List.cons_append, List.append_assoc]
      rw [e, refSt_eq, List.headD_cons, List.tail_cons, if_pos rfl]
      show refIf (refBlk (n + 1)) _ = _
      unfold refIf
      show (match pTest (testW t ++ (("{" : Str) :: (treeW (stW false n) a ++ (("}" : Str) :: (elseW false (stW false n) b ++ r))))) with
        | none => none
        | some (q, r) => match refBlk (n + 1) r with
          | none => none
          | some (a, r2) => if r2.headD "" = "else" then (match refBlk (n + 1) r2.tail with
            | none => none
            | some (b, r3) => some (PyData.tuple [.str "if", q, a, b], r3)) else some (PyData.tuple [.str "if", q, a, .tuple []], r2)) = _
      rw [test_read ht (nj _)]
      dsimp only
      rw [show refBlk (n + 1) = refBlock (refRows (refSt n)) from rfl, block_read (tree_read (st_read n) ha (.inr rfl))]
      dsimp only
      by_cases hz : noRows b = true
      · have el : elseW false (stW false n) b = [] := by unfold elseW; exact if_pos (by rw [hz]; rfl)
        rw [el, List.nil_append, if_neg (by rcases hr with z | z | z <;> (rw [z]; decide))]
        cases b with
        | tuple bs =>
          cases bs with
          | nil => rfl
          | cons _ _ => cases hz
        | _ => cases hb
      · have el : elseW false (stW false n) b = ("else" : Str) :: ("{" : Str) :: (treeW (stW false n) b ++ [("}" : Str)]) := by unfold elseW; exact if_neg (by rw [Bool.not_false, Bool.true_and]; exact hz)
        have e2 : (("else" : Str) :: ("{" : Str) :: (treeW (stW false n) b ++ [("}" : Str)])) ++ r = ("else" : Str) :: ("{" : Str) :: (treeW (stW false n) b ++ (("}" : Str) :: r)) := by simp
        rw [el]
        rw [e2, List.headD_cons, List.tail_cons, if_pos rfl]
        show (match refBlock (refRows (refSt n)) (("{" : Str) :: (treeW (stW false n) b ++ (("}" : Str) :: r))) with
            | none => none
            | some (b, r3) => some (PyData.tuple [.str "if", t, a, b], r3)) = _
        rw [block_read (tree_read (st_read n) hb (.inr rfl))]
    · refine ⟨by rw [stW_while]; simp, fun r => ⟨by rw [stW_while]; exact (by decide : ("while" : Str) ≠ "none"), fun hr => ?_⟩⟩
      have e : stW false (n + 1) (.tuple [.str "while", t, a]) ++ r = ("while" : Str) :: (testW t ++ (("{" : Str) :: (treeW (stW false n) a ++ (("}" : Str) :: r)))) := by
        rw [stW_while]
        simp only [List.cons_append, List.append_assoc, List.nil_append]
      rw [e, refSt_eq, List.headD_cons, List.tail_cons, if_neg (by decide), if_pos rfl]
      show refWhile (refBlk (n + 1)) _ = _
      unfold refWhile
      show (match pTest (testW t ++ (("{" : Str) :: (treeW (stW false n) a ++ (("}" : Str) :: r)))) with
        | none => none
        | some (q, r) => match refBlk (n + 1) r with
          | none => none
          | some (a, r2) => some (PyData.tuple [.str "while", q, a], r2)) = _
      rw [test_read ht (nj _)]
      dsimp only
      rw [show refBlk (n + 1) = refBlock (refRows (refSt n)) from rfl, block_read (tree_read (st_read n) ha (.inr rfl))]
end K40

set_option Elab.async false
set_option linter.all false
set_option maxRecDepth 100000
set_option maxHeartbeats 2000000
/-! comprehensions over a text; dicts whose keys are texts -/
namespace Ls
open PySem PySem.Spec PyProof.Rows L2 Rd Dt
section
variable {K : PySem.W.Frag} {H : Hp} {σ : L2.St} {Q : VK} {g : TG} {tt : TT} {te ta : TE} {vs : List Nat}
theorem tLc_str : tLc (iStr ta) g tt te vs σ H Q = ta σ H fun v H1 => ∃ x, v = .str x ∧ tLc (fun _ H R => R (Its x) H) g tt te vs σ H1 Q := rfl
theorem lc_s {z : Str} (Pv : Addr → Nat → Hp → Prop) (h : ∀ D, H D = none → Pv D 0 (upd H D (.lst [])) ∧ (∀ i c H', z.cps.toList[i]? = some c → Pv D i H' → Lturn g tt te vs σ D (.str ⟨#[c]⟩) H' (Pv D (i + 1))) ∧ (∀ H', Pv D z.cps.toList.length H' → Q (.ref D) H')) :
    tLc (fun _ H R => R (Its z) H) g tt te vs σ H Q := fun D hD => lc_it walk_str (Pv D) (h D hD).1 (fun _ _ _ _ => trivial) (fun i x H H' hi hp hy => by
      obtain ⟨e, c, hc, hx⟩ := hy
      subst e hx
      exact (h D hD).2.1 i c _ (by rw [Array.getElem?_toList]; exact hc) hp) (by
      have := (h D hD).2.2
      rwa [Array.length_toList] at this)
theorem sDPut_ {td ty tv : TE} {D : Ends} : sDPut td ty tv D σ H = tv σ H fun v H1 => td σ H1 fun x H2 => ty σ H2 fun y H3 => ∃ a H4, x = .ref a ∧ DPut H3 a y v H4 ∧ D.nx σ H4 := rfl
end
/-- x in a list, within a comprehension -/
theorem op_in_seqK {X : Cx} {K : PySem.W.Frag} (hK : X.K = K) : OpR X (compareOp .In) (rIn K false) := by
  subst hK
  exact op_in_seq
/-- a dict whose keys are these texts -/
def DS (H : Hp) (p : Addr) (ks : List Str) : Prop := ∃ kvs : List (Key × V), H p = some (.dK kvs) ∧ kvs.map (·.1) = ks.map Sum.inr
theorem putK_keys {kvs : List (Key × V)} {ks : List Str} (h : kvs.map (·.1) = ks.map Sum.inr) (c : Str) (v : V) : (putK kvs (Sum.inr c) v).map (·.1) = (if c ∈ ks then ks else ks ++ [c]).map Sum.inr := by
  have ha : (kvs.any fun kv => decide (kv.1 = Sum.inr c)) = decide (c ∈ ks) := by
    have e1 : (kvs.any fun kv => decide (kv.1 = Sum.inr c)) = ((kvs.map (·.1)).any fun k => decide (k = Sum.inr c)) := by
      rw [List.any_map]; rfl
    rw [e1, h, List.any_map]
    rw [Bool.eq_iff_iff, List.any_eq_true, decide_eq_true_eq]
    constructor
    · rintro ⟨x, hx, e⟩
      have : (Sum.inr x : Key) = Sum.inr c := of_decide_eq_true e
      injection this with this
      rw [← this]; exact hx
    · exact fun hx => ⟨c, hx, decide_eq_true rfl⟩
  unfold putK
  rw [ha]
  by_cases hc : c ∈ ks
  · rw [if_pos (decide_eq_true hc), if_pos hc, ← h, List.map_map]
    refine List.map_congr_left fun kv _ => ?_
    show (if kv.1 = Sum.inr c then (kv.1, v) else kv).1 = kv.1
    split <;> rfl
  · rw [if_neg (by rw [decide_eq_false hc]; decide), if_neg hc, List.map_append, h, List.map_append]
    rfl
theorem DS.put {H : Hp} {p : Addr} {ks : List Str} (h : DS H p ks) (hl : ks.length < sizeLine) (c : Str) (v : V) : ∃ H', DPut H p (.str c) v H' ∧ DS H' p (if c ∈ ks then ks else ks ++ [c]) ∧ ∃ o, H' = upd H p o := by
  obtain ⟨kvs, e, hk⟩ := h
  refine ⟨_, DPut.k (k := Sum.inr c) (v := v) e ?_, ⟨_, upd_same, putK_keys hk c v⟩, _, rfl⟩
  have := congrArg List.length hk
  rw [List.length_map, List.length_map] at this
  omega
end Ls

set_option Elab.async false
set_option linter.all false
set_option maxRecDepth 100000
set_option maxHeartbeats 2000000
/-! repr of a list of data; f(k = v, ..) within a try -/
namespace Rl
open PySem PySem.Spec PyProof.Rows L2 Rd Dt Dq
def rReprL (K : PySem.W.Frag) : List V → Hp → VK → Prop := fun vs H Q => ∃ (a : Addr) (xs : List V) (ds : List PyData), vs = [.ref a] ∧ H a = some (.lst xs) ∧ DqAll K H xs ds ∧ PyData.depthAll ds ≤ 49 ∧ wtAll ds ≤ 1000000 ∧ Q (.str (PyData.list ds).shown) H
theorem rReprL_ {K : PySem.W.Frag} {vs : List V} {H : Hp} {Q : VK} : rReprL K vs H Q = ∃ (a : Addr) (xs : List V) (ds : List PyData), vs = [.ref a] ∧ H a = some (.lst xs) ∧ DqAll K H xs ds ∧ PyData.depthAll ds ≤ 49 ∧ wtAll ds ≤ 1000000 ∧ Q (.str (PyData.list ds).shown) H := rfl
theorem call_reprL {X : Cx} {K : PySem.W.Frag} (hK : X.K = K) (S : SysD K) (hG : X.A.guards = some []) (hu : X.A.units + 64 < cLine) : CallR X (.builtin "repr") (rReprL K) := by
  subst hK
  intro pins s σ H xs us Q I rv h
  obtain ⟨a, ys, ds, rfl, ha, hD, hdp, hw, q⟩ := h
  obtain ⟨h1, h2, h3⟩ := DqAll.size ds _ hD
  have hs : (PyData.list ds).showable = true := by rw [PyData.showable, h1]
  have hz' : (PyData.list ds).shown.length ≤ 3 + wtAll ds := by
    rw [PyData.shown]
    have := listText_len_le (PyData.shownAll ds)
    omega
  have hz : (PyData.list ds).shown.length ≤ sizeLine := Nat.le_trans hz' (Nat.le_trans (show 3 + wtAll ds ≤ 1000003 by omega) (by rw [sizeLine_eq]; decide))
  have hd : (PyData.list ds).depth ≤ 50 := by rw [PyData.depth]; omega
  cases rv with
  | cons rx rn =>
    cases rn
    cases rx
    obtain ⟨its, rv, ⟨o, n, ho, hc, _, hd'⟩, _⟩ := I.list (SqL.of ha)
    obtain ⟨as, hr, hn⟩ := DqAll.reads S I ds _ its hD rv
    have nm : sysModules ∉ a :: as := fun z => by
      rcases List.mem_cons.mp z with z | z
      · obtain ⟨o', k1, k2⟩ := S
        have e := I.kIn _ _ k1
        rw [z, ho] at e
        cases e
        exact absurd (Value.type.inj (hc.symm.trans k2)) (by decide)
      · exact hn z
    exact repr_of_reads' (Reads.list ho hc hd' hr) hs (fun _ => nm) hG (by omega) (fun _ _ z => z) (fun h' u tk hk => ⟨.str _, H, I.kept (t' := tk) hk, ⟨u, rfl⟩, q⟩) hz
def tCallKS (sp : Sp) (gV : List V → List V) (m : Nat) (E : L2.St → XK) (tk : TA) : TE := fun σ H Q => tk σ H fun zs H1 => zs.length = m ∧ sp (gV zs) H1 Q (E σ)
theorem tCallKS_ {sp : Sp} {gV : List V → List V} {m : Nat} {E : L2.St → XK} {tk : TA} {σ : L2.St} {H : Hp} {Q : VK} : tCallKS sp gV m E tk σ H Q = tk σ H fun zs H1 => zs.length = m ∧ sp (gV zs) H1 Q (E σ) := rfl
section
variable {X : Cx} {CX : CXT} {k : Nat} {f : Addr} {fd : FuncData} {ps ks : List Str} {sp : Sp} {E : L2.St → XK} {x : Str} {p pos : Pos} {kws : List Keyword} {tk : TA} {g : List Value → List Value} {gV : List V → List V}
theorem pe_callKwS (F : FnOk X.prog X.w X.K X.mg X.base CX k f fd ps sp) (hr : Room k X.A) (hg : Gl X x) (hm : X.mg x = some (.ref f)) (hk : PySem.W.keepIn X.K (.ref f) = true)
    (hb : KBn X.K fd ps 0 ks (fun _ ws => g ws) (fun _ zs => gV zs)) (hx : ∀ σ, PassesAt CX X σ (E σ)) (hkw : PK X kws tk)
    (hall : (backToKw pos (keywordEach kws X.env)).all (·.1.isSome) = true := by rfl) (hks : (backToKw pos (keywordEach kws X.env)).filterMap (·.1) = ks := by rfl)
    (hdb : (x == ("__debug__" : Str)) = false := by decide)
    (hpl : ((backTo pos (starEach [] X.env)).any (·.1) || (backToKw pos (keywordEach kws X.env)).any (·.1.isNone)) = false := by rfl) :
    PE X (.Call (.Name x p) [] kws pos) (tCallKS sp gV ks.length E tk) := by
  constructor
  intro pins s σ H Q I h
  refine wpAny_Call_Name_kw (ld_glob I hg hm ?_ hdb)
  refine PySem.W.callWith_KW0 (h₀ := X.base) I.ok.mod.kin hk hall ?_ hpl
  refine thn (hkw.run pos pins s σ H _ I h) ?_
  rintro ws s2 ⟨zs, H2, I2, rz, l2, q2⟩
  refine ⟨I2.kIn, ?_⟩
  rw [hks]
  have r2 := hb.rel (.nil : Vals [] []) rz
  refine wpAny_call (codeAny_mono (F.run X.A X.stack s2 H2 ⟨[], ks.zip ws⟩ (g ws) (gV zs) Q (E σ) hr I2.env0 (hb.to s2 [] ws I2.kIn rfl (rz.length.symm.trans l2)) r2 q2) fun r s' hq => ?_)
  cases r with
  | error e => exact hx σ pins H2 s2 e s' I2 hq
  | ok fl =>
    cases fl with
    | ret u => exact I2.after hq
    | next => exact False.elim hq
    | brk => exact False.elim hq
    | cont => exact False.elim hq
end
end Rl

set_option Elab.async false
set_option linter.all false
set_option maxRecDepth 100000
set_option maxHeartbeats 4000000
namespace K40
open PySem PySem.Spec PyProof.Rows L2 Rd Dt Dq Pk TL
local macro_rules | `(tactic| walk_at "rd") => `(tactic| try simp only [↓Ls.tLc_str, ↓Ls.sDPut_, ↓Rl.rReprL_, ↓Rl.tCallKS_, ↓tFld_, ↓sFld_, ↓tVar_, ↓tC_, ↓tM1, ↓tDNewK_, ↓tOp_, ↓tUn_, ↓rI_, ↓rI0_, ↓rU_, ↓eq_ii, ↓ne_ii, ↓eq_ss, ↓ne_ss, ↓eq_bb, ↓ne_bb, ↓tAndV_, ↓tOrV_, ↓tNotV_, ↓tIf_, ↓tTest_, ↓tB_, ↓tAnd_, ↓tOr_, ↓tNot_, ↓tChain_, ↓tNil_, ↓tCons_, ↓tTup_, ↓tLst_, ↓tCB_, ↓tCall_, ↓tSeq_, ↓tNext_, ↓tRet_, ↓tRetN_, ↓tDrop_, ↓tBreak_, ↓tNever_, ↓tIfS_, ↓tAsg_, ↓gName_, ↓gTup_, ↓gCons_, ↓gNil_, ↓gSub_, ↓tPar_, ↓tPar3_, ↓tSl_, ↓tNoPart_, ↓tPart_, ↓tBM_, ↓tFor_range1, ↓tFor_range2, ↓tFor_list, ↓tFor_tup, L2.start, List.headD_cons, List.headD_nil, List.tail_cons, List.map_cons, List.map_nil, List.length_cons, List.length_nil, List.replicate, List.append_nil, List.nil_append, List.cons_append, List.getElem?_cons_zero, List.getElem?_cons_succ, List.set_cons_zero, List.set_cons_succ, Option.some.injEq, V.int.injEq, V.bl.injEq, V.str.injEq, V.ref.injEq, exists_eq_left, exists_eq_left', exists_eq_right, exists_eq, exists_and_left, and_true, true_and, decide_eq_true_eq, Nat.reduceAdd, Nat.reduceSub, Nat.add_zero, Nat.zero_add, List.cons.injEq, Bool.not_eq_true', decide_eq_false_iff_not, eq_self, reduceCtorEq, Bool.false_eq_true, if_true, if_false, ite_true, ite_false, and_self, ↓tLc_range1, ↓tLc_range2, ↓tLc_list, ↓tLc_tup, ↓tYes_, wipe0, wipe1, ↓tCallS_, ↓rIxL_, ↓rIxT_, ↓rSlL_, ↓rCat_, ↓rSetL_, ↓rRep_, ↓rGcd_, ↓tCallK_, ↓gUnl_, ↓tRaise_, decide_true, decide_false, not_true_eq_false, not_false_eq_true, false_and, or_false, false_or, and_false, and_assoc, exists_const, forall_const, forall_eq'])

section
variable {P : Program} {w : World} {K : PySem.W.Frag} {mg : Str → Option Value} {base : Heap}
open Ls
theorem comp_dq {H : Hp} {y : V} {c : PyData} (hd : isComp c = true) (h : Dq K H y c) : ∃ (b : Addr) (m a e : Str), y = .ref b ∧ H b = some (.tup [.str m, .str a, .str e]) ∧ isLetterS a = true ∧ isGoal (.str e) = true ∧ wordsOf c = [a, e] := by
  obtain ⟨m, a, e, rfl, hm, ha, he⟩ := comp_cases hd
  cases h with
  | tup e2 h2 =>
    cases h2 with
    | cons h3 h4 =>
      cases h3
      cases h4 with
      | cons h5 h6 =>
        cases h5
        cases h6 with
        | cons h7 h8 =>
          cases h7
          cases h8
          exact ⟨_, m, a, e, rfl, e2, ha, he, rfl⟩
def LT (H : Hp) (p : Addr) (ws : List Str) : Prop := H p = some (.lst ((letL ws).map V.str))
def spTL (K : PySem.W.Frag) : Sp := fun vs H Q _ => ∃ (x : V) (t : PyData), vs = [x] ∧ Dq K H x t ∧ isTest t = true ∧ ∀ p H', H p = none → Same H H' → LT H' p (testL t) → Q (.ref p) H'
def tlP (H0 : Hp) (a0 p : Addr) (cs : List PyData) (j : Nat) : L2.St → Hp → Prop := fun σ H => Same H0 H ∧ (∃ ks, DS H p ks ∧ KS ks ((cs.take j).flatMap wordsOf)) ∧ ∃ x y z : Option V, σ = [some (.ref a0), some (.ref p), x, y, z]
theorem sc_tl : FnScope ["tree", "found", "sign", "one", "other"] ["tree"] (defScope (top 38)) := ⟨rfl, rfl, rfl, by decide +kernel, rfl, by decide +kernel, by decide +kernel⟩
theorem ok_tl {f : Addr} {fd : FuncData} (T : Tx mg) (bSo : mg "sorted" = none) (F : FD K "test_letters" (top 38) f fd) : FnOk P w K mg base CX0 1 f fd ["tree"] (spTL K) := by
  refine F.ok sc_tl (fun vs H Q E h => ?_) (fun cdv A outer s H vs Q E hr h => ?_)
  · obtain ⟨_, _, rfl, _⟩ := h
    rfl
  · obtain ⟨x, t, rfl, hx, ht, k⟩ := h
    have nd := sc_tl.nd
    obtain ⟨j, cs, rfl, _, hl3, hc⟩ := test_cases ht
    have e0 : testL (.tuple [.str j, .tuple cs]) = cs.flatMap wordsOf := rfl
    rw [e0] at k
    obtain ⟨a0, a1, xs, rfl, e1, e2, ha⟩ : ∃ (a0 a1 : Addr) (xs : List V), x = .ref a0 ∧ H a0 = some (.tup [.str j, .ref a1]) ∧ H a1 = some (.tup xs) ∧ DqAll K H xs cs := by
      cases hx with
      | tup e h2 =>
        cases h2 with
        | cons h3 h4 =>
          cases h3
          cases h4 with
          | cons h5 h6 =>
            cases h6
            cases h5 with
            | tup e2 h7 => exact ⟨_, _, _, rfl, e, e2, h7⟩
    have hl := ha.len
    have zl : (400000 : Nat) ≤ sizeLine := by rw [sizeLine_eq]; decide
    refine ⟨_, (pss_cons (ps_set (i := 1) nd rfl (Or.inl rfl) pe_dnewK)
        (pss_cons (ps_for (passes_of rfl) rfl (pi_tup (pe_ix (r := rIxT K) ix_tup (pv 0) pe_int (fun _ _ => rfl))) (pg_tup rfl (pgs_cons (pg_name (i := 2) nd rfl (Or.inl rfl) (hf := Or.inr rfl)) (pgs_cons (pg_name (i := 3) nd rfl (Or.inl rfl) (hf := Or.inr rfl)) (pgs_cons (pg_name (i := 4) nd rfl (Or.inl rfl) (hf := Or.inr rfl)) pgs_nil)))) (pss_cons (ps_dput (hu_of hr) (pv 1) (pv 3) pe_bl rfl)
        (pss_one (ps_if (pt_cmpR op_ne (pv 4) pe_str (nomark _)) (pss_one (ps_dput (hu_of hr) (pv 1) (pv 4) pe_bl rfl)) pss_nil))))
        (pss_one (ps_ret (pe_callB (call_sortedD rfl) (by rfl) bSo (by decide +kernel) (pa_cons (pv 1) pa_nil)))))), ?_⟩
    refine sq fun U hU => ?_
    walk_at "rd"
    refine fun p hp => hU _ _ ?_
    clear hU
    have s0 : Same H (upd H p (.dK [])) := same_new hp
    refine sq fun U hU => ?_
    walk_at "rd"
    refine ⟨_, SqT.of (s0 _ _ e1), _, atI_nn (by decide) rfl, a1, rfl, ⟨_, SqT.of (s0 _ _ e2)⟩, ?_⟩
    have pn : ∀ {b o}, H b = some o → b ≠ p := fun e => ne_of_none e hp
    refine for_t (xs := xs) (fun i σ H' => tlP H a0 p cs i σ H') ⟨s0, ⟨[], ⟨[], upd_same, rfl⟩, KS.nil⟩, _, _, _, rfl⟩ (fun i σ H' _ hP => SqT.of (hP.1 _ _ e2)) ?_ ?_
    · rintro i y σ H' hy ⟨hs, ⟨ks, hds, hks⟩, v1, v2, v3, rfl⟩
      obtain ⟨c, hc1, hc2⟩ := ha.atV hy
      obtain ⟨b, m, a, e, rfl, eb, la, ge, wc⟩ := comp_dq (hc c (List.mem_of_getElem? hc1)) (hc2.up hs)
      have et : (cs.take (i + 1)).flatMap wordsOf = (cs.take i).flatMap wordsOf ++ [a] ++ [e] := by
        rw [List.take_succ, hc1, List.flatMap_append]
        show _ ++ (wordsOf c ++ []) = _
        rw [wc]; simp
      walk_at "rd"
      refine ⟨_, SqT.of eb, rfl, _, _, rfl, _, _, rfl, _, _, rfl, rfl, ?_⟩
      have kl := hks.len
      obtain ⟨H2, d2, ds2, o2, rfl⟩ := hds.put (by omega) a (.bl true)
      refine ⟨_, d2, ?_⟩
      have s2 : Same H (upd H' p o2) := fun b o eb' => by rw [upd_ne (pn eb')]; exact hs _ _ eb'
      have k2 := hks.add la
      walk_at "rd"
      by_cases hE : e = "END"
      · rw [if_neg (by simp [hE])]
        exact ⟨s2, ⟨_, ds2, by rw [et, hE]; exact k2.goal⟩, _, _, _, rfl⟩
      · rw [if_pos hE]
        have le : isLetterS e = true := by
          have z : (isLetterS e || decide (e = "END")) = true := ge
          rw [decide_eq_false hE, Bool.or_false] at z
          exact z
        have kl2 := k2.len
        obtain ⟨H3, d3, ds3, o3, rfl⟩ := ds2.put (by omega) e (.bl true)
        refine ⟨_, d3, fun b o eb' => by rw [upd_ne (pn eb')]; exact s2 _ _ eb', ⟨_, ds3, by rw [et]; exact k2.add le⟩, _, _, _, rfl⟩
    · rintro σ H' ⟨hs, ⟨ks, hds, hks⟩, v1, v2, v3, rfl⟩
      refine hU _ _ ?_
      walk_at "rd"
      obtain ⟨kvs, ek, hk⟩ := hds
      have kl := hks.len
      refine ⟨kvs, Rd.of ek, ks, hk, by omega, fun ys q hpm hst hq => ?_⟩
      have n0 : H q = none := by
        cases z : H q with
        | none => rfl
        | some o => rw [hs _ _ z] at hq; cases hq
      refine k q _ n0 (hs.trans (same_new hq)) ?_
      have ey := hks.sort hpm hst
      rw [hl, List.take_length] at ey
      show (upd H' q (.lst (ys.map V.str))) q = _
      rw [upd_same, ey]
end
end K40

set_option Elab.async false
set_option linter.all false
set_option maxRecDepth 100000
set_option maxHeartbeats 4000000
namespace K40S
open PySem PySem.Spec PyProof.Rows L2 Rd Dt Dq Pk
local macro_rules | `(tactic| walk_at "rd") => `(tactic| try simp only [tVar_, tC_, tOp_, tUn_, rI_, rI0_, rU_, eq_ii, ne_ii, eq_ss, ne_ss, eq_bb, ne_bb, tAndV_, tOrV_, tNotV_, tIf_, tTest_, tB_, tAnd_, tOr_, tNot_, tChain_, tNil_, tCons_, tTup_, tLst_, tCB_, tCall_, tSeq_, tNext_, tRet_, tRetN_, tDrop_, tBreak_, tNever_, tIfS_, tAsg_, gName_, gTup_, gCons_, gNil_, gSub_, tPar_, tPar3_, tSl_, tNoPart_, tPart_, tBM_, tFor_range1, tFor_range2, tFor_list, tFor_tup,
  L2.start, List.map_cons, List.map_nil, List.length_cons, List.length_nil, List.replicate, List.append_nil, List.nil_append, List.cons_append, List.getElem?_cons_zero, List.getElem?_cons_succ, List.set_cons_zero, List.set_cons_succ, Option.some.injEq, V.int.injEq, V.bl.injEq, V.str.injEq, V.ref.injEq, exists_eq_left, exists_eq_left', exists_eq_right, exists_eq, exists_and_left, and_true, true_and, decide_eq_true_eq, Nat.reduceAdd, Nat.reduceSub, Nat.add_zero, Nat.zero_add, List.cons.injEq, Bool.not_eq_true', decide_eq_false_iff_not, eq_self, reduceCtorEq, Bool.false_eq_true, if_true, if_false, ite_true, ite_false, and_self, tLc_range1, tLc_range2, tLc_list, tLc_tup, tYes_, wipe0, wipe1, tCallS_, rIxL_, rIxT_, rSlL_, rCat_, rSetL_, rRep_, rGcd_, tCallK_, gUnl_, tRaise_, decide_true, decide_false, not_true_eq_false, not_false_eq_true, false_and, or_false, false_or, and_false, and_assoc, exists_const, forall_const, forall_eq'])

def top (i : Nat) : Stmt := PySem.Challenge.pw_arrowcells_k40_tests_on_stores.main.body.getD i (.Pass ⟨0, 0, 0, 0⟩)
structure Tx (mg : Str → Option Value) : Prop where
  b_len : mg "len" = none
  b_int : mg "int" = none
  b_isinstance : mg "isinstance" = none
  b_abs : mg "abs" = none
  b_divmod : mg "divmod" = none
  b_range : mg "range" = none
  b_max : mg "max" = none
  b_min : mg "min" = none
  b_repr : mg "repr" = none
  b_all : mg "all" = none
  b_list : mg "list" = none
  b_tuple : mg "tuple" = none
  b_str : mg "str" = none
  b_bool : mg "bool" = none
  b_dict : mg "dict" = none
  b_enumerate : mg "enumerate" = none
  b_sorted : mg "sorted" = none
  b_sum : mg "sum" = none
  b_set : mg "set" = none
  lets : ∃ t, mg "LETTERS" = some (.str "abcdefghijklmnopqrstuvwxyz" t)
  en : ∃ t, mg "END" = some (.int 0 t)
  mp : ∃ t, mg "MOST_PLACE" = some (.int 999 t)
  mc : ∃ t, mg "MOST_CELLS" = some (.int 500 t)
  mn : ∃ t, mg "MOST_NAMES" = some (.int 4 t)
abbrev abc : Str := "abcdefghijklmnopqrstuvwxyz"
abbrev fig : Str := "0123456789"
abbrev FD (K : PySem.W.Frag) (x : Str) (st : Stmt) (f : Addr) (fd : FuncData) : Prop := FunD K x x (defArgs st) (defBody st) (defScope st) [] [] f fd
abbrev KW (K : PySem.W.Frag) (fd : FuncData) (ps : List Str) : Prop := KBn K fd ps 0 ps (fun _ ws => ws) (fun _ zs => zs)
section
variable {P : Program} {w : World} {K : PySem.W.Frag} {mg : Str → Option Value} {base : Heap}
def WellAt (H : Hp) (u : Addr) : Prop := ∃ a b c : Int, H u = some (.lst [.int a, .int b, .int c]) ∧ 0 ≤ b ∧ b < 2147483648
theorem WellAt.but {H H' : Hp} {u : Addr} (h : WellAt H u) (s : Same H H') : WellAt H' u := by
  obtain ⟨a, b, c, e, q⟩ := h
  exact ⟨a, b, c, s _ _ e, q⟩
def spTake : Sp := fun vs H Q _ => ∃ (u : Addr) (n : Int), vs = [.ref u, .int n] ∧ WellAt H u ∧ 1 ≤ n ∧ n < 1073741824 ∧ ∀ (d : Int) (H' : Hp), But u H H' → WellAt H' u → 0 ≤ d → d < n → Q (.int d) H'
def spUrn (K : PySem.W.Frag) : Sp := fun vs H Q _ => ∃ (a : Addr) (ns : List Int) (t : Int), vs = [.ref a, .int t] ∧ SqL K H a (ns.map V.int) ∧ ns.length ≤ 63 ∧ 0 ≤ t ∧ t ≤ 5 ∧ ∀ (u : Addr) (H' : Hp), Same H H' → H u = none → WellAt H' u → Q (.ref u) H'
theorem some_but {H H' : Hp} {u : Addr} {a : Addr} {o : HO} (h : H a = some o) (hb : But u H H') (n : a ≠ u) : H' a = some o := hb _ _ n h
def spPick : Sp := fun vs H Q _ => ∃ (u : Addr) (x : V) (xs : List V), vs = [.ref u, x] ∧ WellAt H u ∧ x ≠ .ref u ∧ Row H x xs ∧ 1 ≤ xs.length ∧ xs.length ≤ 1000 ∧ ∀ (y : V) (H' : Hp), But u H H' → WellAt H' u → y ∈ xs → Q y H'
end
end K40S

set_option Elab.async false
set_option linter.all false
set_option maxRecDepth 100000
set_option maxHeartbeats 2000000
/-! fields of an instance, read and stored -/
namespace Ob
open PySem PySem.Spec PyProof.Rows L2 Rd Dt Dq Pk
section
variable {σ : L2.St} {H : Hp} {Q : VK} {D : Ends} {ta tv : TE} {K : PySem.W.Frag} {f : Str}
def FA (K : PySem.W.Frag) (H : Hp) (a : Addr) (f : Str) (v : V) : Prop := ∃ C dx fs, H a = some (.ins C dx fs) ∧ Cls K C ∧ NoAttr K C f ∧ fs.lookup f = some v
def SA (K : PySem.W.Frag) (H : Hp) (a : Addr) (f : Str) (C dx : Addr) (fs : List (Str × V)) : Prop := H a = some (.ins C dx fs) ∧ Cls K C ∧ NoAttr K C f ∧ fs.length < 1000
theorem tFld_ : tFld K ta f σ H Q = ta σ H fun x H1 => ∃ a v, x = .ref a ∧ FA K H1 a f v ∧ Q v H1 := by
  unfold tFld
  congr 1
  funext x H1
  refine propext ⟨?_, ?_⟩
  · rintro ⟨a, C, dx, fs, v, e, h1, h2, h3, h4, q⟩
    exact ⟨a, v, e, ⟨C, dx, fs, h1, h2, h3, h4⟩, q⟩
  · rintro ⟨a, v, e, ⟨C, dx, fs, h1, h2, h3, h4⟩, q⟩
    exact ⟨a, C, dx, fs, v, e, h1, h2, h3, h4, q⟩
theorem sFld_ : sFld K ta tv f D σ H = tv σ H fun y H1 => ta σ H1 fun x H2 => ∃ a C dx fs, x = .ref a ∧ SA K H2 a f C dx fs ∧ D.nx σ (upd H2 a (.ins C dx (putF f y fs))) := by
  unfold sFld
  congr 1
  funext y H1
  congr 1
  funext x H2
  refine propext ⟨?_, ?_⟩
  · rintro ⟨a, C, dx, fs, e, h1, h2, h3, h4, q⟩
    exact ⟨a, C, dx, fs, e, ⟨h1, h2, h3, h4⟩, q⟩
  · rintro ⟨a, C, dx, fs, e, ⟨h1, h2, h3, h4⟩, q⟩
    exact ⟨a, C, dx, fs, e, h1, h2, h3, h4, q⟩
end
theorem pe_fldK {X : Cx} {K : PySem.W.Frag} {e : Expr} {f : Str} {pos : Pos} {ta : TE} (hK : X.K = K) (he : PE X e ta) (hb : attributeBase e f X.env (eval e X.env) = eval e X.env) : PE X (.Attribute e f pos) (tFld K ta f) := by
  subst hK
  exact pe_fld he hb
end Ob

set_option Elab.async false
set_option linter.all false
set_option maxRecDepth 100000
set_option maxHeartbeats 2000000
/-! a list beside the empty one -/
namespace Le
open PySem PySem.Spec PyProof.Rows L2 Rd
def rNeLE (K : PySem.W.Frag) : R2 := fun x y H Q => ∃ (a b : Addr) (xs : List V), x = .ref a ∧ y = .ref b ∧ SqL K H a xs ∧ SqL K H b [] ∧ Q (.bl (!decide (xs = []))) H
theorem op_neLE {X : Cx} (hu : X.A.units + 64 < cLine) : OpR X (compareOp .NotEq) (rNeLE X.K) := by
  intro pins s σ H x y v u Q I rx ry h
  obtain ⟨a, b, xs, rfl, rfl, ha, hb, q⟩ := h
  cases rx
  cases ry
  obtain ⟨its, rv, tu, _⟩ := I.list ha
  obtain ⟨its2, rv2, tu2, _⟩ := I.list hb
  cases rv2
  have hl := rv.length
  by_cases e : xs = []
  · subst e
    cases rv
    refine SeqAt.RcNeAt.lists (e := fun _ => true) tu.isList tu2.isList rfl (by omega) (fun j _ h2 => (Nat.not_lt_zero _ h2).elim) X.prog X.w _ _ ?_
    exact ⟨.bl false, H, I, rfl, by simpa using q⟩
  · have hn : its ≠ [] := fun z => e (List.eq_nil_of_length_eq_zero (by rw [hl, z]; rfl))
    refine SeqAt.RcNeAt.lists_lengths tu.isList tu2.isList ?_ (by omega) X.prog X.w _ _ ?_
    · have := List.length_pos_iff.mpr hn
      simp only [List.size_toArray, List.length_nil, bne_iff_ne, ne_eq]
      omega
    · exact ⟨.bl true, H, I, rfl, by rw [decide_eq_false e] at q; exact q⟩
def rEqLE (K : PySem.W.Frag) : R2 := fun x y H Q => ∃ (a b : Addr) (xs : List V), x = .ref a ∧ y = .ref b ∧ SqL K H a xs ∧ SqL K H b [] ∧ Q (.bl (decide (xs = []))) H
theorem op_eqLE {X : Cx} (hu : X.A.units + 64 < cLine) : OpR X (compareOp .Eq) (rEqLE X.K) := by
  intro pins s σ H x y v u Q I rx ry h
  obtain ⟨a, b, xs, rfl, rfl, ha, hb, q⟩ := h
  cases rx
  cases ry
  obtain ⟨its, rv, tu, _⟩ := I.list ha
  obtain ⟨its2, rv2, tu2, _⟩ := I.list hb
  cases rv2
  have hl := rv.length
  by_cases e : xs = []
  · subst e
    cases rv
    refine SeqAt.eq_listAt (e := fun _ => true) tu.isList tu2.isList rfl (by omega) (fun j _ h2 => (Nat.not_lt_zero _ h2).elim) ?_
    exact ⟨.bl true, H, I, rfl, by simpa using q⟩
  · have hn : its ≠ [] := fun z => e (List.eq_nil_of_length_eq_zero (by rw [hl, z]; rfl))
    refine SeqAt.eq_list_lengthsAt tu.isList tu2.isList ?_ (by omega) ?_
    · have := List.length_pos_iff.mpr hn
      simp only [List.size_toArray, List.length_nil, bne_iff_ne, ne_eq]
      omega
    · exact ⟨.bl false, H, I, rfl, by rw [decide_eq_false e] at q; exact q⟩
theorem rNeLE_ {K : PySem.W.Frag} {x y : V} {H : Hp} {Q : VK} : rNeLE K x y H Q = ∃ (a b : Addr) (xs : List V), x = .ref a ∧ y = .ref b ∧ SqL K H a xs ∧ SqL K H b [] ∧ Q (.bl (!decide (xs = []))) H := rfl
theorem rEqLE_ {K : PySem.W.Frag} {x y : V} {H : Hp} {Q : VK} : rEqLE K x y H Q = ∃ (a b : Addr) (xs : List V), x = .ref a ∧ y = .ref b ∧ SqL K H a xs ∧ SqL K H b [] ∧ Q (.bl (decide (xs = []))) H := rfl
theorem op_neLEK {X : Cx} {K : PySem.W.Frag} (hK : X.K = K) (hu : X.A.units + 64 < cLine) : OpR X (compareOp .NotEq) (rNeLE K) := by
  subst hK
  exact op_neLE hu
theorem op_eqLEK {X : Cx} {K : PySem.W.Frag} (hK : X.K = K) (hu : X.A.units + 64 < cLine) : OpR X (compareOp .Eq) (rEqLE K) := by
  subst hK
  exact op_eqLE hu
end Le

set_option Elab.async false
set_option linter.all false
set_option maxRecDepth 100000
set_option maxHeartbeats 2000000
/-! ranges with a step -/
namespace Rg
open PySem PySem.Spec PyProof.Rows L2 Rd
section
variable {TA1 : TA} {g : TG} {tb : TS} {D : Ends} {σ : L2.St} {H : Hp} {tt : TT} {te : TE} {vs : List Nat} {Q : VK}
theorem tFor_range3 : tFor (iRng3 TA1) g tb D σ H = TA1 σ H fun vs H1 => ∃ (i j c : Int) (n : Nat), vs = [.int i, .int j, .int c] ∧ RgC i j c n ∧ tFor (fun _ H R => R (Itc i c n) H) g tb D σ H1 := rfl
theorem for_c {lo c : Int} {n : Nat} (Pv : Nat → L2.St → Hp → Prop) (h0 : Pv 0 σ H)
    (hs : ∀ i σ H, i < n → Pv i σ H → g (.int (lo + (i : Nat) * c)) σ H fun σ2 H2 => tb { D with nx := Pv (i + 1), ct := Pv (i + 1), bk := D.nx } σ2 H2) (hd : ∀ σ H, Pv n σ H → D.nx σ H) :
    tFor (fun _ H R => R (Itc lo c n) H) g tb D σ H := for_it walk_rangeC Pv h0 (fun _ _ _ _ _ => trivial) (fun i x σ H H' hi hp hy => by
      obtain ⟨e, hx⟩ := hy
      subst e hx
      exact hs i σ _ hi hp) hd
theorem tLc_range3 : tLc (iRng3 TA1) g tt te vs σ H Q = TA1 σ H fun ws H1 => ∃ (i j c : Int) (n : Nat), ws = [.int i, .int j, .int c] ∧ RgC i j c n ∧ tLc (fun _ H R => R (Itc i c n) H) g tt te vs σ H1 Q := rfl
end
/-! ### list(range(i, j, c)) -/
def rgC (i c : Int) (n : Nat) : List V := (List.range n).map fun k => V.int (i + (k : Nat) * c)
theorem rgC_length (i c : Int) (n : Nat) : (rgC i c n).length = n := by unfold rgC; rw [List.length_map, List.length_range]
theorem vals_rgC {i c : Int} {n : Nat} {acc : Array Value} (h : ItemsOf (fun k v => ∃ t, v = .int (i + k * c) t) acc n) : Vals (rgC i c n) acc.toList := by
  have e : acc.toList.length = n := by rw [Array.length_toList]; exact h.1
  unfold rgC
  rw [← e]
  refine vals_of_get acc.toList _ fun j u hj => ?_
  obtain ⟨t, rfl⟩ := h.2 j u (by rw [← hj, Array.getElem?_toList])
  exact ⟨t, rfl⟩
def tLstC (ta : TA) : TE := fun σ H Q => ta σ H fun vs H1 => ∃ (i j c : Int) (n : Nat), vs = [.int i, .int j, .int c] ∧ RgC i j c n ∧ n ≤ 2 ^ 24 ∧ ∀ q, H1 q = none → Q (.ref q) (upd H1 q (.lst (rgC i c n)))
theorem tLstC_ {ta : TA} {σ : L2.St} {H : Hp} {Q : VK} : tLstC ta σ H Q = ta σ H fun vs H1 => ∃ (i j c : Int) (n : Nat), vs = [.int i, .int j, .int c] ∧ RgC i j c n ∧ n ≤ 2 ^ 24 ∧ ∀ q, H1 q = none → Q (.ref q) (upd H1 q (.lst (rgC i c n))) := rfl
theorem pe_listC {X : Cx} {a b c : Expr} {ta : TA} {p pos p' pos' : Pos} (hcm : X.calm = true) (hl : Gl X "list") (hlm : X.mg "list" = none) (hg : Gl X "range") (hm : X.mg "range" = none) (ha : PA X [a, b, c] ta)
    (hs : starEach [a, b, c] X.env = (false, eval a X.env) :: starEach [b, c] X.env := by rfl) (hpl : (backTo pos (starEach [b, c] X.env)).any (·.1) = false := by rfl)
    (na : starEach [.Call (.Name "range" p) [a, b, c] [] pos] X.env = (false, eval (.Call (.Name "range" p) [a, b, c] [] pos) X.env) :: starEach [] X.env := by rfl) :
    PE X (.Call (.Name "list" p') [.Call (.Name "range" p) [a, b, c] [] pos] [] pos') (tLstC ta) := by
  refine ⟨fun pins s σ H Q I h => ?_⟩
  refine Call_ (ld_blt I hl hlm boot_list (PyProof.Rows.callWith_type1 (args_cons (Call_ (ld_blt I hg hm boot_range (PyProof.Rows.callWith_type1 (thn (ha.run pos pins s σ H _ I h) fun us s1 ⟨vs, H1, I1, r1, q1⟩ => ?_) hs hpl))) na) na))
  obtain ⟨i, j, k, n, e, ⟨c0, c1, c2, c3⟩, hn, q⟩ := q1
  subst e
  cases r1 with
  | cons r rr =>
    cases rr with
    | cons r' rr =>
      cases rr with
      | cons r'' rr =>
        cases rr
        obtain ⟨t, rfl⟩ := r
        obtain ⟨t', rfl⟩ := r'
        obtain ⟨t'', rfl⟩ := r''
        refine call_range_3 c0 (args_nil ?_) (.inl (PyProof.noPylong_small c1))
        have I2 : Inv X pins σ H1 { s1 with heap := s1.heap.push { cls := .type "range", data := .fields #[.int i t, .int j t', .int k t''] } } := I1.kept (t' := s1.toks) fun b o e => Heap.get?_push_of_some _ e
        refine call_list_range (n := n) (I2.ok.hd hcm) (IsRange.new ..) c2 c3 hn fun h' tk acc c' hk e' hi => ?_
        refine ⟨.ref _, upd H1 _ (.lst (rgC i k n)), I2.laid hk (Nat.le_refl _) (show ObjOk X.prog X.w _ _ _ (.lst (rgC i k n)) from ⟨?_, acc.toList, c', vals_rgC hi, ?_⟩), rfl, q _ (I2.hok.fresh (Nat.le_refl _))⟩
        · rw [rgC_length, sizeLine_eq]; omega
        · rw [Array.toArray_toList]; exact e'
/-- how many -/
def cnt (a b c : Nat) : Nat := if a < b then (b - a - 1) / c + 1 else 0
theorem cnt_size {a b c : Nat} (hc : 0 < c) : Builtin.Range.rangeSize a b c = (cnt a b c : Nat) := by
  unfold Builtin.Range.rangeSize cnt
  rw [if_pos (show (c : Int) > 0 by omega)]
  by_cases h : a < b
  · rw [if_pos (show (a : Int) < b by omega), if_pos h, show (b : Int) - a - 1 = ((b - a - 1 : Nat) : Int) by omega]
    rfl
  · rw [if_neg (show ¬ (a : Int) < b by omega), if_neg h]
    rfl
theorem cnt_le (a b c : Nat) : cnt a b c ≤ b := by
  unfold cnt
  split
  · have := Nat.div_le_self (b - a - 1) c
    omega
  · omega
theorem rgc {a b c : Nat} (hc : 0 < c) (ha : a < 1000000) (hb : b < 1000000) (hc' : c < 1000000) : RgC a b c (cnt a b c) := by
  have hl := cnt_le a b c
  refine ⟨by omega, by omega, ?_, cnt_size hc⟩
  unfold Builtin.Range.small
  rw [cnt_size hc]
  simp only [Builtin.Range.rangeFitsLong, Bool.and_eq_true, Bool.or_eq_true, decide_eq_true_eq, beq_iff_eq, show (c : Int) > 0 by omega, if_true]
  omega
/-- the numbers of it -/
theorem cnt_lt {a b c k : Nat} (hc : 0 < c) : k < cnt a b c ↔ a + k * c < b := by
  unfold cnt
  split
  · rw [Nat.lt_succ_iff, Nat.le_div_iff_mul_le hc]
    omega
  · constructor
    · intro h; omega
    · intro h
      have := Nat.zero_le (k * c)
      omega
/-! a range object, walked -/
def iRngV (te : TE) : TI := fun σ H R => te σ H fun x H1 => ∃ (a : Addr) (lo hi : Int), x = .ref a ∧ H1 a = some (.rng lo hi) ∧ (-(2 ^ 62) ≤ lo ∧ lo < 2 ^ 62 ∧ -(2 ^ 62) ≤ hi ∧ hi < 2 ^ 62) ∧ R (Itr lo (hi - lo).toNat) H1
theorem pi_rngV {X : Cx} {tg e : Expr} {te : TE} (he : PE X e te) : PI X tg e (iRngV te) := by
  refine ⟨fun pins s σ H R I h => ?_⟩
  refine thn (he.run pins s σ H _ I h) fun v s1 ⟨x, H1, I1, r1, q1⟩ => ?_
  obtain ⟨a, lo, hi, ex, ea, ⟨h1, h2, h3, h4⟩, q⟩ := q1
  subst ex
  cases r1
  obtain ⟨t, u, v, eo⟩ := I1.hok a _ ea
  refine wpAny_pyIter_range (show IsRange s1.heap a lo hi 1 t u v from eo) (small_one h1 h2 h3 h4) ?_
  refine pi_one (tk := s1.toks) I1 _ (turn_range _ lo (hi - lo).toNat) ?_ q
  have e1 : lo + ((0 : Nat) : Int) * 1 = lo := by simp
  have e2 : (((hi - lo).toNat : Nat) : Int) - ((0 : Nat) : Int) = Builtin.Range.rangeSize lo hi 1 := by rw [rangeSize_one]; split <;> omega
  show IsRangeIter _ _ (lo + ((0 : Nat) : Int) * 1) ((((hi - lo).toNat : Nat) : Int) - ((0 : Nat) : Int)) 1
  rw [e1, e2]
  exact Heap.get?_push_size _ rfl
theorem tLc_rngV {te ta : TE} {g : TG} {tt : TT} {vs : List Nat} {σ : L2.St} {H : Hp} {Q : VK} : tLc (iRngV te) g tt ta vs σ H Q = te σ H fun x H1 => ∃ (a : Addr) (lo hi : Int), x = .ref a ∧ H1 a = some (.rng lo hi) ∧ (-(2 ^ 62) ≤ lo ∧ lo < 2 ^ 62 ∧ -(2 ^ 62) ≤ hi ∧ hi < 2 ^ 62) ∧ tLc (fun _ H R => R (Itr lo (hi - lo).toNat) H) g tt ta vs σ H1 Q := rfl
end Rg

set_option Elab.async false
set_option linter.all false
set_option maxRecDepth 100000
set_option maxHeartbeats 2000000
/-! sets of numbers that come round, as plain functions -/
namespace Ln
structure Per (f : Nat → Bool) (s p : Nat) : Prop where
  pos : 0 < p
  eq : ∀ n, s ≤ n → f (n + p) = f n
theorem Per.mono {f : Nat → Bool} {s s' p : Nat} (h : Per f s p) (e : s ≤ s') : Per f s' p := ⟨h.pos, fun n hn => h.eq n (Nat.le_trans e hn)⟩
theorem Per.steps {f : Nat → Bool} {s p : Nat} (h : Per f s p) : ∀ (k n : Nat), s ≤ n → f (n + k * p) = f n
  | 0, n, _ => by rw [Nat.zero_mul, Nat.add_zero]
  | k + 1, n, hn => by
    rw [Nat.add_mul, Nat.one_mul, ← Nat.add_assoc, h.eq (n + k * p) (by omega), h.steps k n hn]
theorem Per.lower {f : Nat → Bool} {s s' p q : Nat} (h : Per f s p) (g : Per f s' q) : Per f s q := ⟨g.pos, fun n hn => by
  have e1 := h.steps s' (n + q) (by omega)
  have e2 := h.steps s' n hn
  have hs : s' ≤ n + s' * p := Nat.le_trans (Nat.le_mul_of_pos_right s' h.pos) (Nat.le_add_left _ _)
  have e3 := g.eq (n + s' * p) hs
  rw [← e1, ← e2, ← e3]
  congr 1
  omega⟩
theorem Per.sub {f : Nat → Bool} {s p q : Nat} (h : Per f s p) (g : Per f s q) (e : p < q) : Per f s (q - p) := ⟨by omega, fun n hn => by
  rw [← h.eq (n + (q - p)) (by omega), ← g.eq n hn]
  congr 1
  omega⟩
theorem Per.gcd {f : Nat → Bool} {s : Nat} : ∀ (m p q : Nat), p + q ≤ m → Per f s p → Per f s q → Per f s (Nat.gcd p q)
  | 0, p, q, hm, hp, _ => by have := hp.pos; omega
  | m + 1, p, q, hm, hp, hq => by
    have := hp.pos
    have := hq.pos
    by_cases e : p = q
    · rw [e, Nat.gcd_self]; exact hq
    · by_cases l : p < q
      · have h1 := Per.gcd m p (q - p) (by omega) hp (hp.sub hq l)
        have e2 : Nat.gcd p (q - p) = Nat.gcd p q := by
          have := Nat.gcd_add_self_right p (q - p)
          rw [Nat.sub_add_cancel (by omega)] at this
          exact this.symm
        rwa [e2] at h1
      · have h1 := Per.gcd m (p - q) q (by omega) (hq.sub hp (by omega)) hq
        have e2 : Nat.gcd (p - q) q = Nat.gcd p q := by
          have := Nat.gcd_add_self_left q (p - q)
          rw [Nat.sub_add_cancel (by omega)] at this
          exact this.symm
        rwa [e2] at h1
/-- the least start and the least step -/
structure Norm (f : Nat → Bool) (s t : Nat) : Prop where
  per : Per f s t
  min : ∀ s' p, Per f s' p → t ∣ p
  low : ∀ s', Per f s' t → s ≤ s'
theorem Norm.unique {f : Nat → Bool} {s t s' t' : Nat} (h : Norm f s t) (g : Norm f s' t') : s = s' ∧ t = t' := by
  have e : t = t' := Nat.dvd_antisymm (h.min _ _ g.per) (g.min _ _ h.per)
  subst e
  exact ⟨Nat.le_antisymm (h.low _ g.per) (g.low _ h.per), rfl⟩
theorem Norm.make {f : Nat → Bool} {start step d s : Nat} (hp : Per f start step) (hd : d ∣ step) (pd : Per f start d) (least : ∀ e, 0 < e → e ∣ step → Per f start e → d ≤ e) (hs : Per f s d) (hlow : s = 0 ∨ f (s - 1) ≠ f (s - 1 + d)) : Norm f s d := by
  refine ⟨hs, fun s' p h => ?_, fun s' h => ?_⟩
  · have h1 := hp.lower h
    have h2 := Per.gcd (d + p) d p (Nat.le_refl _) pd h1
    have h3 := least _ h2.pos (Nat.dvd_trans (Nat.gcd_dvd_left d p) hd) h2
    have h4 := Nat.le_of_dvd pd.pos (Nat.gcd_dvd_left d p)
    have e : Nat.gcd d p = d := Nat.le_antisymm h4 h3
    rw [← e]
    exact Nat.gcd_dvd_right d p
  · rcases hlow with z | z
    · omega
    · apply Classical.byContradiction
      intro hn
      exact z (h.eq (s - 1) (by omega)).symm
/-- beyond the start a number stands for one of the first round -/
theorem Per.fold {f : Nat → Bool} {s t : Nat} (h : Per f s t) (n : Nat) (hn : s ≤ n) : f n = f (s + (n - s) % t) := by
  have e := h.steps ((n - s) / t) (s + (n - s) % t) (by omega)
  rw [← e]
  congr 1
  have := Nat.mod_add_div (n - s) t
  rw [Nat.mul_comm] at this
  omega
theorem Per.ext {f g : Nat → Bool} {s t : Nat} (h : Per f s t) (k : Per g s t) (e : ∀ n, n < s + t → f n = g n) : f = g := by
  funext n
  by_cases hn : n < s
  · exact e n (by omega)
  · rw [h.fold n (by omega), k.fold n (by omega)]
    have := Nat.mod_lt (n - s) h.pos
    exact e _ (by omega)
/-- the bits of a set from 0 on -/
structure Bits (f : Nat → Bool) (B m : Nat) : Prop where
  lt : B < 2 ^ m
  eq : ∀ n, n < m → B.testBit n = f n
theorem Bits.at {f : Nat → Bool} {B m : Nat} (h : Bits f B m) (n : Nat) : B.testBit n = (f n && decide (n < m)) := by
  by_cases hn : n < m
  · rw [h.eq n hn, decide_eq_true hn, Bool.and_true]
  · rw [decide_eq_false hn, Bool.and_false]
    exact Nat.testBit_lt_two_pow (Nat.lt_of_lt_of_le h.lt (Nat.pow_le_pow_right (by decide) (by omega)))
theorem Bits.unique {f : Nat → Bool} {B C m : Nat} (h : Bits f B m) (g : Bits f C m) : B = C := Nat.eq_of_testBit_eq fun n => by rw [h.at, g.at]
theorem Bits.cut {f : Nat → Bool} {B m k : Nat} (h : Bits f B m) (e : k ≤ m) : Bits f (B &&& (2 ^ k - 1)) k := by
  refine ⟨Nat.lt_of_le_of_lt Nat.and_le_right (by have := Nat.two_pow_pos k; omega), fun n hn => ?_⟩
  rw [Nat.testBit_and, Nat.testBit_two_pow_sub_one, decide_eq_true hn, Bool.and_true, h.eq n (by omega)]
/-- what the program looks at: the round has a shorter period -/
theorem shorter {f : Nat → Bool} {B start step e : Nat} (hb : Bits f B (start + step)) (hp : Per f start step) (he : 0 < e) (hd : e ∣ step) :
    ((B >>> start) >>> e = (B >>> start) &&& (2 ^ (step - e) - 1)) ↔ Per f start e := by
  have le : e ≤ step := Nat.le_of_dvd hp.pos hd
  constructor
  · intro h
    have one : ∀ j, j + e < step → f (start + j + e) = f (start + j) := fun j hj => by
      have h1 := congrArg (fun x => x.testBit j) h
      simp only [Nat.testBit_shiftRight, Nat.testBit_and, Nat.testBit_two_pow_sub_one] at h1
      rw [decide_eq_true (show j < step - e by omega), Bool.and_true] at h1
      rw [hb.eq _ (by omega), hb.eq _ (by omega)] at h1
      rw [← h1]
      congr 1
      omega
    have chain : ∀ (k i : Nat), i + k * e < step → f (start + i + k * e) = f (start + i) := fun k => by
      induction k with
      | zero => intro i _; rw [Nat.zero_mul, Nat.add_zero]
      | succ k ih =>
        intro i hi
        rw [Nat.add_mul, Nat.one_mul] at hi ⊢
        rw [← ih i (by omega)]
        have := one (i + k * e) (by omega)
        rw [← Nat.add_assoc] at this
        rw [← this]
        congr 1
        omega
    refine ⟨he, fun n hn => ?_⟩
    obtain ⟨k, hk⟩ := hd
    obtain ⟨j, rfl⟩ : ∃ j, n = start + j := ⟨n - start, by omega⟩
    have hr := Nat.mod_lt j hp.pos
    have dj : j = j % step + (j / step) * step := by
      have := Nat.mod_add_div j step
      rw [Nat.mul_comm] at this
      omega
    generalize j % step = r at hr dj
    generalize j / step = q at dj
    subst dj
    have e1 : f (start + (r + q * step)) = f (start + r) := by
      rw [← Nat.add_assoc]
      exact hp.steps q (start + r) (by omega)
    have e2 : f (start + (r + q * step) + e) = f (start + r + e) := by
      have := hp.steps q (start + r + e) (by omega)
      rw [← this]
      congr 1
      omega
    rw [e1, e2]
    by_cases c : r + e < step
    · exact one r c
    · have hk0 : 0 < k := by
        rcases Nat.eq_zero_or_pos k with z | z
        · rw [z, Nat.mul_zero] at hk
          have := hp.pos
          omega
        · exact z
      have hk1 : step = (k - 1) * e + e := by
        rw [hk, Nat.mul_comm]
        obtain ⟨k', rfl⟩ : ∃ k', k = k' + 1 := ⟨k - 1, by omega⟩
        rw [Nat.add_mul, Nat.one_mul, Nat.add_sub_cancel]
      obtain ⟨i, hi, hie⟩ : ∃ i, r = (k - 1) * e + i ∧ i < e := ⟨r - (k - 1) * e, by omega, by omega⟩
      have e3 : f (start + r + e) = f (start + i) := by
        have := hp.eq (start + i) (by omega)
        rw [← this]
        congr 1
        omega
      have e4 := chain (k - 1) i (by omega)
      rw [e3, ← e4]
      congr 1
      omega
  · intro h
    apply Nat.eq_of_testBit_eq
    intro j
    simp only [Nat.testBit_shiftRight, Nat.testBit_and, Nat.testBit_two_pow_sub_one]
    rw [hb.at, hb.at]
    by_cases c : e + j < step
    · rw [decide_eq_true (show start + (e + j) < start + step by omega), decide_eq_true (show start + j < start + step by omega), decide_eq_true (show j < step - e by omega), Bool.and_true, Bool.and_true, Bool.and_true]
      rw [← h.eq (start + j) (by omega)]
      congr 1
      omega
    · rw [decide_eq_false (show ¬ start + (e + j) < start + step by omega), decide_eq_false (show ¬ j < step - e by omega), Bool.and_false, Bool.and_false]
/-- one bit of it -/
theorem bit_at (B n : Nat) : (B >>> n) &&& 1 = if B.testBit n then 1 else 0 := by
  rw [Nat.and_one_is_mod, Nat.shiftRight_eq_div_pow]
  have h := Nat.testBit_eq_decide_div_mod_eq (x := B) (i := n)
  have h2 := Nat.mod_lt (B / 2 ^ n) (show 0 < 2 by decide)
  by_cases c : B / 2 ^ n % 2 = 1
  · rw [h, decide_eq_true c, if_pos rfl]; exact c
  · rw [h, decide_eq_false c, if_neg (by decide)]; omega
end Ln

set_option Elab.async false
set_option linter.all false
set_option maxRecDepth 100000
set_option maxHeartbeats 2000000
/-! words of sets -/
namespace Ln
open PySem PySem.Spec PyProof.Rows L2 Rd Dt
def fW (ws : List (Nat × Nat)) (n : Nat) : Bool := ws.any fun w => decide (n = w.1) || (decide (0 < w.2) && (decide (w.1 < n) && decide ((n - w.1) % w.2 = 0)))
def topW (ws : List (Nat × Nat)) : Nat := ws.foldl (fun m w => max m (w.1 + 1)) 0
theorem top_le : ∀ (ws : List (Nat × Nat)) (m : Nat), m ≤ ws.foldl (fun m w => max m (w.1 + 1)) m ∧ ∀ w ∈ ws, w.1 + 1 ≤ ws.foldl (fun m w => max m (w.1 + 1)) m
  | [], m => ⟨Nat.le_refl _, fun _ z => nomatch z⟩
  | w :: ws, m => by
    rw [List.foldl_cons]
    obtain ⟨h1, h2⟩ := top_le ws (max m (w.1 + 1))
    refine ⟨by omega, fun x hx => ?_⟩
    rcases List.mem_cons.mp hx with rfl | hx
    · omega
    · exact h2 x hx
theorem per_W {ws : List (Nat × Nat)} {p : Nat} (hp : 0 < p) (h : ∀ w ∈ ws, w.2 = 0 ∨ w.2 ∣ p) : Per (fW ws) (topW ws) p := ⟨hp, fun n hn => by
  unfold fW
  rw [Bool.eq_iff_iff, List.any_eq_true, List.any_eq_true]
  have key : ∀ w ∈ ws, (decide (n + p = w.1) || (decide (0 < w.2) && (decide (w.1 < n + p) && decide ((n + p - w.1) % w.2 = 0)))) = (decide (n = w.1) || (decide (0 < w.2) && (decide (w.1 < n) && decide ((n - w.1) % w.2 = 0)))) := fun w hw => by
    have h1 := (top_le ws 0).2 w hw
    have h2 : w.1 + 1 ≤ topW ws := h1
    rw [decide_eq_false (show ¬ n + p = w.1 by omega), decide_eq_false (show ¬ n = w.1 by omega), decide_eq_true (show w.1 < n + p by omega), decide_eq_true (show w.1 < n by omega)]
    rcases h w hw with z | ⟨k, z⟩
    · rw [z]; rfl
    · have e : n + p - w.1 = (n - w.1) + w.2 * k := by omega
      rw [e, Nat.add_mul_mod_self_left]
  exact ⟨fun ⟨w, hw, e⟩ => ⟨w, hw, by rw [← key w hw]; exact e⟩, fun ⟨w, hw, e⟩ => ⟨w, hw, by rw [key w hw]; exact e⟩⟩⟩
/-! ### texts -/
def numT (n : Nat) : Str := Str.ofString (toString (n : Int))
def sufT (d : Nat) : Str := if d = 0 then "" else if d = 1 then "+" else "+" ++ numT d
def wordT (w : Nat × Nat) : Str := numT w.1 ++ sufT w.2
def setT (ws : List (Nat × Nat)) : Str := if ws = [] then "none" else Txt.join " " (ws.map wordT)
theorem numT_len {n : Nat} (h : n < 2 ^ 20) : (numT n).length ≤ 21 := by
  have f := Fit.int (i := (n : Int)) (k := 20) (by decide) (by decide) (by rw [Int.natAbs_natCast]; exact h)
  have e : (PyData.shown (.int (n : Int))) = numT n := by unfold PyData.shown; rfl
  rw [← e]
  exact f.sz
theorem sufT_len {n : Nat} (h : n < 2 ^ 20) : (sufT n).length ≤ 22 := by
  unfold sufT
  split
  · decide
  · split
    · decide
    · rw [Str.length_append]
      have := numT_len h
      have e : ("+" : Str).length = 1 := by decide
      omega
theorem wordT_len {w : Nat × Nat} (h1 : w.1 < 2 ^ 20) (h2 : w.2 < 2 ^ 20) : (wordT w).length ≤ 43 := by
  unfold wordT
  rw [Str.length_append]
  have := numT_len h1
  have := sufT_len h2
  omega
/-! ### in the heap -/
inductive WsAt (H : Hp) : List V → List (Nat × Nat) → Prop
  | nil : WsAt H [] []
  | cons {b : Addr} {w : Nat × Nat} {xs : List V} {ws : List (Nat × Nat)} : H b = some (.tup [.int w.1, .int w.2]) → WsAt H xs ws → WsAt H (.ref b :: xs) (w :: ws)
theorem WsAt.keep {H H' : Hp} (hs : ∀ b x y, H b = some (.tup [x, y]) → H' b = some (.tup [x, y])) : ∀ {xs : List V} {ws : List (Nat × Nat)}, WsAt H xs ws → WsAt H' xs ws
  | _, _, .nil => .nil
  | _, _, .cons e h => .cons (hs _ _ _ e) (h.keep hs)
theorem WsAt.up {H H' : Hp} (s : Same H H') {xs : List V} {ws : List (Nat × Nat)} (h : WsAt H xs ws) : WsAt H' xs ws := h.keep fun b x y e => s _ _ e
theorem WsAt.len {H : Hp} : ∀ {xs : List V} {ws : List (Nat × Nat)}, WsAt H xs ws → xs.length = ws.length
  | _, _, .nil => rfl
  | _, _, .cons _ h => congrArg (· + 1) h.len
theorem WsAt.atV {H : Hp} : ∀ {xs : List V} {ws : List (Nat × Nat)}, WsAt H xs ws → ∀ {i : Nat} {v : V}, xs[i]? = some v → ∃ (w : Nat × Nat) (b : Addr), ws[i]? = some w ∧ v = .ref b ∧ H b = some (.tup [.int w.1, .int w.2])
  | _, _, .nil, i, v, h => by cases i <;> cases h
  | _, _, .cons e h, i, v, hv => by
    cases i with
    | zero => cases hv; exact ⟨_, _, rfl, rfl, e⟩
    | succ i => exact h.atV hv
theorem WsAt.append {H : Hp} : ∀ {xs ys : List V} {ws vs : List (Nat × Nat)}, WsAt H xs ws → WsAt H ys vs → WsAt H (xs ++ ys) (ws ++ vs)
  | _, _, _, _, .nil, g => g
  | _, _, _, _, .cons e h, g => .cons e (h.append g)
end Ln

set_option Elab.async false
set_option linter.all false
set_option maxRecDepth 100000
set_option maxHeartbeats 2000000
/-! texts of sets, read again -/
namespace Ln
open PySem PySem.Spec PyProof.Rows L2 Rd Dt TL
def nl (n : Nat) : Nat := if n < 10 then 1 else if n < 100 then 2 else if n < 1000 then 3 else 4
def okNum (n : Nat) : Bool :=
  decide ((numT n).length = nl n) && (decide (intText? (numT n) = some (n : Int)) && ((numT n).cps.toList.all (fun c => decide (48 ≤ c) && decide (c ≤ 57)) && (decide ((numT n).length = 1) || !decide ((numT n).cps.toList[0]? = some 48))))
theorem okNum_all : (List.range 1001).all okNum = true := by decide +kernel
theorem okNum_at {n : Nat} (h : n ≤ 1000) : okNum n = true := List.all_eq_true.mp okNum_all n (List.mem_range.mpr (by omega))
theorem numT_at {n : Nat} (h : n ≤ 1000) : (numT n).length = nl n ∧ intText? (numT n) = some (n : Int) ∧ (∀ c ∈ (numT n).cps.toList, 48 ≤ c ∧ c ≤ 57) ∧ ((numT n).length = 1 ∨ (numT n).cps.toList[0]? ≠ some 48) := by
  have := okNum_at h
  unfold okNum at this
  rw [Bool.and_eq_true, Bool.and_eq_true, Bool.and_eq_true, decide_eq_true_eq, decide_eq_true_eq, List.all_eq_true] at this
  obtain ⟨h1, h2, h3, h4⟩ := this
  refine ⟨h1, h2, fun c hc => ?_, ?_⟩
  · have := h3 c hc
    rw [Bool.and_eq_true, decide_eq_true_eq, decide_eq_true_eq] at this
    exact this
  · rw [Bool.or_eq_true, decide_eq_true_eq, Bool.not_eq_true', decide_eq_false_iff_not] at h4
    exact h4
theorem nl_mono {n m : Nat} (h : n ≤ m) : nl n ≤ nl m := by
  unfold nl
  split <;> split <;> (try split) <;> (try split) <;> (try split) <;> (try split) <;> omega
theorem nl_pos (n : Nat) : 1 ≤ nl n ∧ nl n ≤ 4 := by
  unfold nl
  split <;> (try split) <;> (try split) <;> omega
def rowW (w : Nat × Nat) : List Str := if w.2 = 0 then [numT w.1] else if w.2 = 1 then [numT w.1, ""] else [numT w.1, numT w.2]
theorem tl_plus : tl "+" = 43 :: [] := by decide +kernel
theorem tl_spc : tl " " = 32 :: [] := by decide +kernel
theorem rowW_no {w : Nat × Nat} (h1 : w.1 ≤ 1000) (h2 : w.2 ≤ 1000) : ∀ p ∈ rowW w, 43 ∉ tl p := by
  have a1 : 43 ∉ tl (numT w.1) := fun z => by have := (numT_at h1).2.2.1 43 z; omega
  have a2 : 43 ∉ tl (numT w.2) := fun z => by have := (numT_at h2).2.2.1 43 z; omega
  have a3 : 43 ∉ tl "" := by decide +kernel
  intro p hp
  unfold rowW at hp
  split at hp
  · rw [List.mem_singleton.mp hp]; exact a1
  · split at hp <;> rcases List.mem_cons.mp hp with e | hp
    · rw [e]; exact a1
    · rw [List.mem_singleton.mp hp]; exact a3
    · rw [e]; exact a1
    · rw [List.mem_singleton.mp hp]; exact a2
theorem row_join (w : Nat × Nat) : Txt.join "+" (rowW w) = wordT w := by
  rw [join_eq]
  unfold rowW wordT sufT
  split
  · show numT w.1 = numT w.1 ++ ""
    exact (Str.append_empty _).symm
  · split
    · show numT w.1 ++ "+" ++ "" = numT w.1 ++ "+"
      exact Str.append_empty _
    · show numT w.1 ++ "+" ++ numT w.2 = numT w.1 ++ ("+" ++ numT w.2)
      exact Str.append_assoc _ _ _
theorem row_split {w : Nat × Nat} (h1 : w.1 ≤ 1000) (h2 : w.2 ≤ 1000) : Txt.split (wordT w) "+" = rowW w := by
  rw [← row_join]
  exact split_join tl_plus (by decide +kernel) (by unfold rowW; split <;> (try split) <;> simp) (rowW_no h1 h2)
theorem word_no {w : Nat × Nat} (h1 : w.1 ≤ 1000) (h2 : w.2 ≤ 1000) : 32 ∉ tl (wordT w) := by
  have a1 : 32 ∉ tl (numT w.1) := fun z => by have := (numT_at h1).2.2.1 32 z; omega
  have a2 : 32 ∉ tl (numT w.2) := fun z => by have := (numT_at h2).2.2.1 32 z; omega
  have a3 : 32 ∉ tl "" := by decide +kernel
  have a4 : 32 ∉ tl "+" := by decide +kernel
  unfold wordT sufT
  rw [tl_append, List.mem_append]
  rintro (z | z)
  · exact a1 z
  · split at z
    · exact a3 z
    · split at z
      · exact a4 z
      · rw [tl_append, List.mem_append] at z
        rcases z with z | z
        · exact a4 z
        · exact a2 z
theorem set_split {ws : List (Nat × Nat)} (hw : ws ≠ []) (h : ∀ w ∈ ws, w.1 ≤ 1000 ∧ w.2 ≤ 1000) : Txt.split (setT ws) " " = ws.map wordT := by
  unfold setT
  rw [if_neg hw]
  refine split_join tl_spc (by decide +kernel) (by simpa using hw) fun p hp => ?_
  obtain ⟨w, hw', rfl⟩ := List.mem_map.mp hp
  exact word_no (h w hw').1 (h w hw').2
/-- a text of words is not 'none' -/
theorem set_none {ws : List (Nat × Nat)} (hw : ws ≠ []) (h : ∀ w ∈ ws, w.1 ≤ 1000 ∧ w.2 ≤ 1000) : setT ws ≠ "none" := fun z => by
  have e := set_split hw h
  rw [z] at e
  have e2 : Txt.split (Txt.join " " [Str.ofString "none"]) " " = [Str.ofString "none"] := split_join tl_spc (by decide +kernel) (by simp) (fun p hp => by rw [List.mem_singleton.mp hp]; decide +kernel)
  have e3 : Txt.join " " [Str.ofString "none"] = "none" := by rw [join_eq]; rfl
  rw [e3] at e2
  rw [e2] at e
  cases ws with
  | nil => exact hw rfl
  | cons w r =>
    cases r with
    | cons _ _ => simp at e
    | nil =>
      have e4 : wordT w = "none" := by
        have := List.cons.inj e
        exact this.1.symm
      have h1 := numT_at (h w (List.mem_cons_self ..)).1
      have hl := (nl_pos w.1).1
      have hc : 0 < (numT w.1).cps.toList.length := by
        have := h1.1
        show 0 < (numT w.1).cps.toList.length
        rw [Array.length_toList]
        show 0 < (numT w.1).length
        omega
      have hm : (numT w.1).cps.toList[0] ∈ tl (wordT w) := by
        unfold wordT
        rw [tl_append, List.mem_append]
        exact .inl (List.getElem_mem _)
      rw [e4] at hm
      have := h1.2.2.1 _ (List.getElem_mem hc)
      have e5 : tl "none" = [110, 111, 110, 101] := by decide +kernel
      rw [e5] at hm
      simp only [List.mem_cons, List.not_mem_nil, or_false] at hm
      omega
end Ln

set_option Elab.async false
set_option linter.all false
set_option maxRecDepth 100000
set_option maxHeartbeats 2000000
/-! math.lcm of two small numbers above 0; fields as targets of a tuple -/
namespace Lc
open PySem PySem.Spec PyProof.Rows L2 Rd Dt Dq Pk
section
variable {X : Cx}
def rLcm : List V → Hp → VK → Prop := fun vs H Q => ∃ a b : Nat, vs = [.int a, .int b] ∧ a < 65536 ∧ b < 65536 ∧ Q (.int ((Nat.lcm a b : Nat) : Int)) H
theorem lcm_lt {a b : Nat} (ha : a < 65536) (hb : b < 65536) : Nat.lcm a b < 2 ^ 32 := by
  have h1 : Nat.lcm a b ≤ a * b := Nat.div_le_self _ _
  have h2 : a * b ≤ 65535 * 65535 := Nat.mul_le_mul (by omega) (by omega)
  omega
theorem cr_lcm : CallR X (.builtin "math.lcm") rLcm := by
  intro pins s σ H vs us Q I r h
  obtain ⟨a, b, rfl, ha, hb, q⟩ := h
  obtain ⟨t, u, rfl⟩ := Vals.int2 r
  refine PySem.W.mg_lcm_v (by show (a : Int).natAbs < 2 ^ 64; omega) (by show (b : Int).natAbs < 2 ^ 64; omega) (c := ((Nat.lcm a b : Nat) : Int)) ?_ ?_ ⟨.int _, H, I.tok _, ⟨_, rfl⟩, q⟩
  · rw [Nat.lcm_one_left]
    rfl
  · show (Nat.lcm a b).log2 < bitsLine
    have := lcm_lt ha hb
    by_cases c : Nat.lcm a b = 0
    · rw [c]; decide
    · have := (Nat.log2_lt c).mpr this
      have e : bitsLine = 134217728 := by decide
      omega
/-- e.f, a target -/
def gFld (K : PySem.W.Frag) (ta : TE) (f : Str) : TG := fun v σ H Q => ta σ H fun x H1 => ∃ a C dx fs, x = .ref a ∧ Ob.SA K H1 a f C dx fs ∧ Q σ (upd H1 a (.ins C dx (putF f v fs)))
theorem pg_fld {o : Expr} {f : Str} {pos : Pos} {ta : TE} (ha : PE X o ta) : PG X (.Attribute o f pos) (gFld X.K ta f) := by
  refine ⟨fun pins s σ H v u Q I r h => ?_⟩
  rw [arm_assign_Attribute]
  refine wpAny_bind (wpAny_holding (thn (ha.run pins s σ H _ I h) fun ov s1 ⟨x, H1, I1, rx, a, C, dx, fs, ex, ⟨ea, c, n, l⟩, q⟩ => ?_))
  subst ex
  obtain rfl : ov = Value.ref a := rx
  refine wpAny_bind (wpAny_standAt (wpAny_bind (wpAny_holding (setattr_ok I1 ea c n l r fun s2 I2 => ?_))))
  exact wpAny_release ⟨σ, _, I2, q⟩
end

theorem _root_.L2.Room.units65 {k : Nat} {A : Around} (r : Room k A) : A.units + 65 < cLine := by have := r.un; omega
theorem op_inDK {X : Cx} {K : PySem.W.Frag} (hK : X.K = K) (hu : X.A.units + 65 < cLine) : OpR X (compareOp .In) (rInD K) := by
  subst hK
  exact op_inD hu
theorem rInD_ {K : PySem.W.Frag} {x y : V} {H : Hp} {Q : VK} : rInD K x y H Q = ∃ d ds, Dp K H x d ∧ Dp K H y (.list ds) ∧ SeqAt.shaped d = true ∧ SeqAt.shaped (.list ds) = true ∧ Q (.bl (ds.any fun z => PyData.eqv z d)) H := rfl
end Lc

set_option Elab.async false
set_option linter.all false
set_option maxRecDepth 100000
set_option maxHeartbeats 4000000
namespace K40S
open PySem PySem.Spec PyProof.Rows L2 Rd Dt Dq Pk Ln
local macro_rules | `(tactic| walk_at "rd") => `(tactic| try simp only [↓Rg.tFor_range3, ↓Rg.tLc_range3, ↓Rg.tLstC_, ↓Rg.tLc_rngV, ↓Le.rNeLE_, ↓Le.rEqLE_, ↓Ls.tLc_str, ↓Ls.sDPut_, ↓Rl.rReprL_, ↓Rl.tCallKS_, ↓Ob.tFld_, ↓Ob.sFld_, ↓tVar_, ↓tC_, ↓tM1, ↓tDNewK_, ↓tOp_, ↓tUn_, ↓rI_, ↓rI0_, ↓rU_, ↓eq_ii, ↓ne_ii, ↓eq_ss, ↓ne_ss, ↓eq_bb, ↓ne_bb, ↓tAndV_, ↓tOrV_, ↓tNotV_, ↓tIf_, ↓tTest_, ↓tB_, ↓tAnd_, ↓tOr_, ↓tNot_, ↓tChain_, ↓tNil_, ↓tCons_, ↓tTup_, ↓tLst_, ↓tCB_, ↓tCall_, ↓tSeq_, ↓tNext_, ↓tRet_, ↓tRetN_, ↓tDrop_, ↓tBreak_, ↓tNever_, ↓tIfS_, ↓tAsg_, ↓gName_, ↓gTup_, ↓gCons_, ↓gNil_, ↓gSub_, ↓tPar_, ↓tPar3_, ↓tSl_, ↓tNoPart_, ↓tPart_, ↓tBM_, ↓tFor_range1, ↓tFor_range2, ↓tFor_list, ↓tFor_tup, L2.start, List.headD_cons, List.headD_nil, List.tail_cons, List.map_cons, List.map_nil, List.length_cons, List.length_nil, List.replicate, List.append_nil, List.nil_append, List.cons_append, List.getElem?_cons_zero, List.getElem?_cons_succ, List.set_cons_zero, List.set_cons_succ, Option.some.injEq, V.int.injEq, V.bl.injEq, V.str.injEq, V.ref.injEq, exists_eq_left, exists_eq_left', exists_eq_right, exists_eq, exists_and_left, and_true, true_and, decide_eq_true_eq, Nat.reduceAdd, Nat.reduceSub, Nat.add_zero, Nat.zero_add, List.cons.injEq, Bool.not_eq_true', decide_eq_false_iff_not, eq_self, reduceCtorEq, Bool.false_eq_true, if_true, if_false, ite_true, ite_false, and_self, ↓tLc_range1, ↓tLc_range2, ↓tLc_list, ↓tLc_tup, ↓tYes_, wipe0, wipe1, ↓tCallS_, ↓rIxL_, ↓rIxT_, ↓rSlL_, ↓rCat_, ↓rSetL_, ↓rRep_, ↓rGcd_, ↓tCallK_, ↓gUnl_, ↓tRaise_, decide_true, decide_false, not_true_eq_false, not_false_eq_true, false_and, or_false, false_or, and_false, and_assoc, exists_const, forall_const, forall_eq'])

section
variable {P : Program} {w : World} {K : PySem.W.Frag} {mg : Str → Option Value} {base : Heap}
theorem lg {n : Nat} (h : n < 2 ^ 20) : (n : Int).natAbs.log2 < 1920 := by
  rw [Int.natAbs_natCast]
  by_cases z : n = 0
  · rw [z, Nat.log2_zero]; decide
  · have := (Nat.log2_lt z).mpr h
    omega
theorem lines {s : Str} {n : Nat} (h : s.length ≤ n) (e : n ≤ 1000000) : s.length ≤ sizeLine := Nat.le_trans h (Nat.le_trans e (by rw [sizeLine_eq]; decide))
/-! ### number_in, row_in, rows_in -/
theorem fig_has {c : Nat} (h1 : 48 ≤ c) (h2 : c ≤ 57) : c ∈ fig.cps.toList := by
  have e : fig.cps.toList = [48, 49, 50, 51, 52, 53, 54, 55, 56, 57] := by decide +kernel
  rw [e]
  simp only [List.mem_cons, List.not_mem_nil, or_false]
  omega
theorem fig_dec {c : Nat} (h1 : 48 ≤ c) (h2 : c ≤ 57) : decide (c ∈ fig.cps.toList) = true := decide_eq_true (fig_has h1 h2)
theorem numT_ne {n : Nat} (h : n ≤ 1000) : ¬ numT n = "" := fun z => by
  have h1 := (numT_at h).1
  have h2 := nl_pos n
  rw [z] at h1
  have e : (Str.ofString "").length = 0 := by decide
  omega
def niP (H : Hp) (D : Addr) (j : Nat) (H' : Hp) : Prop := Same H H' ∧ H' D = some (.lst [])
def spNumIn : Sp := fun vs H Q _ => ∃ n h : Nat, vs = [.str (numT n), .int h] ∧ n ≤ h ∧ h ≤ 1000 ∧ ∀ H', Same H H' → Q (.int n) H'
end
end K40S

set_option Elab.async false
set_option linter.all false
set_option maxRecDepth 100000
set_option maxHeartbeats 2000000
/-! a head's hook that looks at the modules' table too -/
namespace Sm
open PySem PySem.Spec PyProof.Rows L2
open He in
def obsS (n : Nat) (fa : List Fa) (fn : List DefD) (ex : PySem.W.Frag → Bool) (g : Addr → Option Obj) : Ga.AlM := (obsD fa fn (frG g (sysModules :: asD g n)), ex (frG g (sysModules :: asD g n)))
open He in
def hookS (n : Nat) (fa : List Fa) (fn : List DefD) (ex : PySem.W.Frag → Bool) : PySem.W.Hook where
  α := Ga.AlM
  obs := fun s => obsS n fa fn ex s.heap.get?
  val := fun _ => (valD fn, true)
  says := fun _ h => ∃ K : PySem.W.Frag, K.In h ∧ SaysD fa fn K ∧ ex K = true
  of := fun _ _ e => ⟨_, frG_in, congrArg Prod.fst e, congrArg Prod.snd e⟩
  keeps := fun _ _ _ ⟨K, hK, c⟩ k => ⟨K, PySem.W.Frag.In.keeps hK k, c⟩
open He in
theorem obsS_eq {n : Nat} {fa : List Fa} {fn : List DefD} {ex : PySem.W.Frag → Bool} {g : Addr → Option Obj} {s : Shared} (h : ∀ a, g a = s.heap.get? a) : obsS n fa fn ex g = (hookS n fa fn ex).obs s := by
  obtain rfl : g = s.heap.get? := funext h
  rfl
def sysB (K : PySem.W.Frag) : Bool := match K.lookup sysModules with
  | some o => decide (o.cls = .type "dict")
  | none => false
theorem sysB_ok {K : PySem.W.Frag} (h : sysB K = true) : Dq.SysD K := by
  unfold sysB at h
  split at h
  · rename_i o e
    exact ⟨o, e, of_decide_eq_true h⟩
  · cases h
end Sm

set_option Elab.async false
set_option linter.all false
set_option maxRecDepth 100000
set_option maxHeartbeats 2000000
/-! properties: read as e.f; what a head tells of them -/
namespace Prp
open PySem PySem.Spec PyProof.Rows L2 Rd Dt Dq Pk
/-- a property as its readers know it -/
structure PrC (P : Program) (w : World) (K : PySem.W.Frag) (mg : Str → Option Value) (base : Heap) (k : Nat) (C : Addr) (f : Str) (sp : Sp) (p g : Addr) (fd : FuncData) : Prop where
  pr : PropOf K C f p g
  bn : Binds K fd ["self"] []
  ok : FnOk P w K mg base CX0 k g fd ["self"] sp
theorem PrC.up {P : Program} {w : World} {K : PySem.W.Frag} {mg : Str → Option Value} {base : Heap} {k : Nat} {C : Addr} {f : Str} {sp : Sp} {p g : Addr} {fd : FuncData} (c : PrC P w K mg base k C f sp p g fd) {m : Nat} (h : k ≤ m) : PrC P w K mg base m C f sp p g fd := ⟨c.pr, c.bn, c.ok.mono h⟩
section
variable {σ : L2.St} {H : Hp} {Q : VK} {ta : TE} {C : Addr} {sp : Sp} {E : XK} {dvs : List V}
theorem tProp_ : tProp C sp dvs E ta σ H Q = ta σ H fun x H1 => ∃ a dx fs, x = .ref a ∧ H1 a = some (.ins C dx fs) ∧ sp (.ref a :: dvs) H1 Q E := rfl
end
theorem pe_propK {X : Cx} {K : PySem.W.Frag} {mg : Str → Option Value} {base : Heap} {P : Program} {w : World} {k : Nat} {C p g : Addr} {f : Str} {fd : FuncData} {sp : Sp} {e : Expr} {pos : Pos} {ta : TE} {E : XK}
    (h1 : X.prog = P) (h2 : X.w = w) (h3 : X.K = K) (h4 : X.mg = mg) (h5 : X.base = base) (he : PE X e ta) (c : Cls K C) (F : PrC P w K mg base k C f sp p g fd) (hr : Room (k + 1) X.A) (hx : Passes CX0 X.nox E)
    (hab : attributeBase e f X.env (eval e X.env) = eval e X.env) : PE X (.Attribute e f pos) (tProp C sp [] E ta) := by
  subst h1 h2 h3 h4 h5
  exact pe_prop he c F.pr F.ok hr F.bn .nil hx hab
/-! ### the head -/
structure PrD where
  cls : Str
  d : He.DefD
def prA (K : PySem.W.Frag) (p : PrD) : Addr := He.ma K (He.ga K p.cls) p.d.name
def geA (K : PySem.W.Frag) (p : PrD) : Addr := match PySem.W.recIn K (prA K p) "property" with
  | some (.ref g :: _) => g
  | _ => 0
/-- a head's fragment seen so that the getter stands under the class's name -/
def seen (K : PySem.W.Frag) (a : Addr) : He.FnW := match K.lookup a with
  | none => none
  | some o => (match o.data with
    | .func fd => some (fd.name, fd.qualname, fd.params, fd.body, fd.scope, fd.globals, fd.closure, fd.builtins)
    | _ => none)
def bare (K : PySem.W.Frag) (a : Addr) (q : Str) : Bool := match K.lookup a with
  | none => false
  | some o => (match o.data with
    | .func fd => PySem.W.keepIn K (.ref a) && (PySem.W.codeIn K fd.code q && (He.dflB K fd.defaults [] && He.kwdB K fd.kwdefaults []))
    | _ => false)
theorem funA {K : PySem.W.Frag} {a : Addr} {d : He.DefD} (e : seen K a = d.val) (c : bare K a d.qual = true) : ∃ fd, FunD K d.name d.qual d.params d.body d.scope [] [] a fd := by
  unfold seen at e
  unfold bare at c
  rcases hq : K.lookup a with _ | ⟨oc, od, dt, sl⟩
  · rw [hq] at c
    exact Bool.noConfusion c
  · rw [hq] at e c
    dsimp only at e c
    cases dt with
    | func fd =>
      dsimp only at e c
      rw [Bool.and_eq_true, Bool.and_eq_true, Bool.and_eq_true] at c
      obtain ⟨c1, c2, c3, c4⟩ := c
      obtain ⟨a1, a2, a3, a4, a5, a6, a7, a8, a9, b1, b2, b3, b4, b5, b6⟩ := fd
      unfold He.DefD.val at e
      dsimp only at e
      injection e with e
      rw [Prod.mk.injEq, Prod.mk.injEq, Prod.mk.injEq, Prod.mk.injEq, Prod.mk.injEq, Prod.mk.injEq, Prod.mk.injEq] at e
      obtain ⟨rfl, rfl, rfl, rfl, rfl, rfl, rfl, rfl⟩ := e
      exact ⟨_, ⟨oc, od, _, _, _, _, _, _, _, sl, rfl, hq, c2, He.dflB_ok c3, He.kwdB_ok c4⟩, c1⟩
    | _ => exact Bool.noConfusion c
def propB (K : PySem.W.Frag) (p : PrD) : Bool :=
  (decide (PySem.W.findIn K (.ref (He.ga K p.cls)) p.d.name = some (some (.ref (prA K p)))) && decide (PySem.W.specialIn K (.ref (prA K p)) "__get__" = some (some (.builtin "property.__get__")))) &&
  ((decide (PySem.W.takesIn K (.ref (prA K p)) = some true) && (match PySem.W.recIn K (prA K p) "property" with
    | some (.ref _ :: _) => true
    | _ => false)) && bare K (geA K p) p.d.qual)
theorem propB_ok {K : PySem.W.Frag} {p : PrD} (h : propB K p = true) (e : seen K (geA K p) = p.d.val) : PropOf K (He.ga K p.cls) p.d.name (prA K p) (geA K p) ∧ ∃ fd, FunD K p.d.name p.d.qual p.d.params p.d.body p.d.scope [] [] (geA K p) fd := by
  unfold propB at h
  rw [Bool.and_eq_true, Bool.and_eq_true, Bool.and_eq_true, Bool.and_eq_true] at h
  obtain ⟨⟨h1, h2⟩, ⟨h3, h4⟩, h5⟩ := h
  refine ⟨⟨of_decide_eq_true h1, of_decide_eq_true h2, of_decide_eq_true h3, ?_⟩, funA e h5⟩
  unfold geA
  split at h4
  · rename_i g rest hg
    rw [hg]
    exact ⟨rest, rfl⟩
  · exact Bool.noConfusion h4
abbrev AlP : Type := Ga.AlM × (Bool × List He.FnW)
open He in
def frS (g : Addr → Option Obj) (n : Nat) : PySem.W.Frag := frG g (sysModules :: asD g n)
open He in
def obsPK (fa : List Fa) (fn : List DefD) (ps : List PrD) (ex : PySem.W.Frag → Bool) (K : PySem.W.Frag) : AlP := ((obsD fa fn K, ex K), (ps.all (propB K), ps.map fun p => seen K (geA K p)))
open He in
def valP (fn : List DefD) (ps : List PrD) : AlP := ((valD fn, true), (true, ps.map fun p => p.d.val))
open He in
def obsP (n : Nat) (fa : List Fa) (fn : List DefD) (ps : List PrD) (ex : PySem.W.Frag → Bool) (g : Addr → Option Obj) : AlP := obsPK fa fn ps ex (frS g n)
def SaysP (ps : List PrD) (K : PySem.W.Frag) : Prop := ps.all (propB K) = true ∧ (ps.map fun p => seen K (geA K p)) = ps.map fun p => p.d.val
theorem SaysP.at {ps : List PrD} {K : PySem.W.Frag} (c : SaysP ps K) (i : Nat) {p : PrD} (h : ps[i]? = some p := by rfl) : PropOf K (He.ga K p.cls) p.d.name (prA K p) (geA K p) ∧ ∃ fd, FunD K p.d.name p.d.qual p.d.params p.d.body p.d.scope [] [] (geA K p) fd := by
  have m := List.mem_of_getElem? h
  refine propB_ok (List.all_eq_true.mp c.1 p m) ?_
  have e2 := congrArg (fun l : List He.FnW => l[i]?) c.2
  simp only [List.getElem?_map, h, Option.map_some] at e2
  exact Option.some.inj e2
open He in
def hookP (n : Nat) (fa : List Fa) (fn : List DefD) (ps : List PrD) (ex : PySem.W.Frag → Bool) : PySem.W.Hook where
  α := AlP
  obs := fun s => obsP n fa fn ps ex s.heap.get?
  val := fun _ => valP fn ps
  says := fun _ h => ∃ K : PySem.W.Frag, K.In h ∧ SaysD fa fn K ∧ (ex K = true ∧ SaysP ps K)
  of := fun _ _ e => ⟨_, frG_in, congrArg (fun z : AlP => z.1.1) e, congrArg (fun z : AlP => z.1.2) e, congrArg (fun z : AlP => z.2.1) e, congrArg (fun z : AlP => z.2.2) e⟩
  keeps := fun _ _ _ ⟨K, hK, c⟩ k => ⟨K, PySem.W.Frag.In.keeps hK k, c⟩
open He in
theorem obsP_eq {n : Nat} {fa : List Fa} {fn : List DefD} {ps : List PrD} {ex : PySem.W.Frag → Bool} {g : Addr → Option Obj} {s : Shared} (h : ∀ a, g a = s.heap.get? a) : obsP n fa fn ps ex g = (hookP n fa fn ps ex).obs s := by
  obtain rfl : g = s.heap.get? := funext h
  rfl
end Prp

set_option Elab.async false
set_option linter.all false
set_option maxRecDepth 100000
set_option maxHeartbeats 2000000
/-! shifts, and, or of naturals -/
namespace Bw
open PySem PySem.Spec PyProof.Rows L2 Rd Dt
section
variable {X : Cx}
def rShr : R2 := fun x y H Q => ∃ i k : Nat, x = .int i ∧ y = .int k ∧ Q (.int ((i >>> k : Nat) : Int)) H
def rShl : R2 := fun x y H Q => ∃ i k n : Nat, x = .int i ∧ y = .int k ∧ i < 2 ^ n ∧ n + k ≤ 100000 ∧ Q (.int ((i * 2 ^ k : Nat) : Int)) H
def rAnd : R2 := fun x y H Q => ∃ i k : Nat, x = .int i ∧ y = .int k ∧ Q (.int ((i &&& k : Nat) : Int)) H
def rOr : R2 := fun x y H Q => ∃ i k : Nat, x = .int i ∧ y = .int k ∧ Q (.int ((i ||| k : Nat) : Int)) H
theorem op_shr : OpR X (binaryOp .RShift) rShr := by
  rintro pins s σ H x y v u Q I rx ry ⟨i, k, rfl, rfl, q⟩
  refine L2.op_shr pins s σ H _ _ v u Q I rx ry ⟨_, _, rfl, rfl, Int.natCast_nonneg k, ?_⟩
  have e : (i : Int) / 2 ^ (k : Int).toNat = ((i >>> k : Nat) : Int) := by
    rw [Int.toNat_natCast, Nat.shiftRight_eq_div_pow]
    push_cast
    rfl
  rw [← e] at q
  exact q
theorem op_shl : OpR X (binaryOp .LShift) rShl := by
  rintro pins s σ H x y v u Q I rx ry ⟨i, k, n, rfl, rfl, hi, hn, q⟩
  refine op_shlW pins s σ H _ _ v u Q I rx ry ⟨_, _, rfl, rfl, shl_ok (n := n) (by rw [Int.natAbs_natCast]; exact hi) (by omega), ?_⟩
  have e : (i : Int) * 2 ^ (k : Int).toNat = ((i * 2 ^ k : Nat) : Int) := by
    rw [Int.toNat_natCast]
    push_cast
    rfl
  rw [← e] at q
  exact q
theorem op_and : OpR X (binaryOp .BitAnd) rAnd := by
  rintro pins s σ H x y v u Q I rx ry ⟨i, k, rfl, rfl, q⟩
  refine L2.op_and pins s σ H _ _ v u Q I rx ry ⟨_, _, rfl, rfl, ?_⟩
  have e : Builtin.bitAnd (i : Int) (k : Int) = ((i &&& k : Nat) : Int) := by
    rw [bitAnd_pp (Int.natCast_nonneg i) (Int.natCast_nonneg k), Int.toNat_natCast, Int.toNat_natCast]
  rw [← e] at q
  exact q
theorem op_or : OpR X (binaryOp .BitOr) rOr := by
  rintro pins s σ H x y v u Q I rx ry ⟨i, k, rfl, rfl, q⟩
  refine L2.op_or pins s σ H _ _ v u Q I rx ry ⟨_, _, rfl, rfl, ?_⟩
  have e : Builtin.bitOr (i : Int) (k : Int) = ((i ||| k : Nat) : Int) := by
    rw [bitOr_nn (Int.natCast_nonneg i) (Int.natCast_nonneg k), Int.toNat_natCast, Int.toNat_natCast]
  rw [← e] at q
  exact q
/-- while, the test shown for any use of its answer -/
theorem while_b2 {c : TT} {tb : TS} {D : Ends} {σ : L2.St} {H : Hp} (Pv : L2.St → Hp → Prop) (μ : L2.St → Hp → Nat) (h0 : Pv σ H)
    (hs : ∀ σ H, Pv σ H → ∀ Q : Bool → Hp → Prop, (∀ H1, tb { D with nx := fun σ' H' => Pv σ' H' ∧ μ σ' H' < μ σ H, ct := fun σ' H' => Pv σ' H' ∧ μ σ' H' < μ σ H, bk := D.nx } σ H1 → Q true H1) → (∀ H1, D.nx σ H1 → Q false H1) → c σ H Q) : tWhile c tb D σ H := by
  refine ⟨fun m σ H => m = μ σ H ∧ Pv σ H, ⟨_, rfl, h0⟩, ?_⟩
  rintro m σ H ⟨rfl, p⟩
  exact hs σ H p _ (fun H1 q => ⟨_, fun σ' H' ⟨p', l⟩ => ⟨_, l, rfl, p'⟩, q⟩) fun H1 q => q
end
/-! ### sets of bits -/
theorem bits_add {f : Nat → Bool} {B m n : Nat} (h : Ln.Bits f B m) (hn : n < m) : Ln.Bits (fun k => f k || decide (k = n)) (B ||| 1 * 2 ^ n) m := by
  rw [Nat.one_mul]
  refine ⟨Nat.or_lt_two_pow h.lt (Nat.pow_lt_pow_right (by decide) hn), fun k hk => ?_⟩
  rw [Nat.testBit_or, Nat.testBit_two_pow, h.eq k hk]
  congr 1
  exact decide_eq_decide.mpr eq_comm
theorem bits_congr {f g : Nat → Bool} {B m : Nat} (h : Ln.Bits f B m) (e : ∀ n, n < m → f n = g n) : Ln.Bits g B m := ⟨h.lt, fun n hn => by rw [h.eq n hn]; exact e n hn⟩
theorem bits_zero {m : Nat} : Ln.Bits (fun _ => false) 0 m := ⟨Nat.two_pow_pos m, fun n _ => Nat.zero_testBit n⟩
theorem bits_or {f g : Nat → Bool} {B C m : Nat} (h : Ln.Bits f B m) (k : Ln.Bits g C m) : Ln.Bits (fun n => f n || g n) (B ||| C) m := ⟨Nat.or_lt_two_pow h.lt k.lt, fun n hn => by rw [Nat.testBit_or, h.eq n hn, k.eq n hn]⟩
theorem bits_and {f g : Nat → Bool} {B C m : Nat} (h : Ln.Bits f B m) (k : Ln.Bits g C m) : Ln.Bits (fun n => f n && g n) (B &&& C) m := ⟨Nat.lt_of_le_of_lt Nat.and_le_left h.lt, fun n hn => by rw [Nat.testBit_and, h.eq n hn, k.eq n hn]⟩
theorem disj_add : ∀ (m x y : Nat), x < 2 ^ m → x &&& y = 0 → x + y = x ||| y
  | 0, x, y, h, _ => by
    have : x = 0 := by simpa using h
    rw [this, Nat.zero_add, Nat.zero_or]
  | m + 1, x, y, h, e => by
    have hx : x / 2 < 2 ^ m := by rw [Nat.pow_succ] at h; omega
    have e2 : x / 2 &&& y / 2 = 0 := by rw [← Nat.and_div_two, e]
    have ih := disj_add m (x / 2) (y / 2) hx e2
    have d : (x ||| y) / 2 = x / 2 ||| y / 2 := Nat.or_div_two
    have b0 := congrArg (fun z => z.testBit 0) e
    have c0 : (x ||| y).testBit 0 = (x.testBit 0 || y.testBit 0) := Nat.testBit_or ..
    simp only [Nat.testBit_and, Nat.testBit_zero, Nat.zero_testBit] at b0 c0
    have r1 := Nat.mod_two_eq_zero_or_one x
    have r2 := Nat.mod_two_eq_zero_or_one y
    have r3 := Nat.mod_two_eq_zero_or_one (x ||| y)
    have m3 : (x ||| y) % 2 = x % 2 + y % 2 := by
      rcases r1 with r1 | r1 <;> rcases r2 with r2 | r2 <;> rcases r3 with r3 | r3 <;> simp [r1, r2, r3] at b0 c0 ⊢
    have := Nat.div_add_mod (x ||| y) 2
    have := Nat.div_add_mod x 2
    have := Nat.div_add_mod y 2
    omega
/-- bits lacking others: B - (B & C) -/
theorem bits_sub {f g : Nat → Bool} {B C m : Nat} (h : Ln.Bits f B m) (k : Ln.Bits g C m) : Ln.Bits (fun n => f n && !g n) (B - (B &&& C)) m := by
  have hx : B - (B &&& C) = B ^^^ (B &&& C) := by
    have hd : B = (B ^^^ (B &&& C)) + (B &&& C) := by
      have e : (B ^^^ (B &&& C)) &&& (B &&& C) = 0 := by
        refine Nat.eq_of_testBit_eq fun n => ?_
        rw [Nat.testBit_and, Nat.testBit_xor, Nat.testBit_and, Nat.zero_testBit]
        cases B.testBit n <;> cases C.testBit n <;> rfl
      have e2 : (B ^^^ (B &&& C)) ||| (B &&& C) = B := by
        refine Nat.eq_of_testBit_eq fun n => ?_
        rw [Nat.testBit_or, Nat.testBit_xor, Nat.testBit_and]
        cases B.testBit n <;> cases C.testBit n <;> rfl
      have := disj_add B (B ^^^ (B &&& C)) (B &&& C) (Nat.xor_lt_two_pow Nat.lt_two_pow_self (Nat.lt_of_le_of_lt Nat.and_le_left Nat.lt_two_pow_self)) e
      omega
    omega
  rw [hx]
  refine ⟨Nat.xor_lt_two_pow h.lt (Nat.lt_of_le_of_lt Nat.and_le_left h.lt), fun n hn => ?_⟩
  rw [Nat.testBit_xor, Nat.testBit_and, h.eq n hn, k.eq n hn]
  cases f n <;> cases g n <;> rfl
end Bw

set_option Elab.async false
set_option linter.all false
set_option maxRecDepth 100000
set_option maxHeartbeats 2000000
/-! the lowest bit; isinstance of an own class; f-strings -/
namespace Lo
open PySem PySem.Spec PyProof.Rows L2 Rd Dt Dq Pk
theorem low_at {B k : Nat} (h : B.testBit k = true) (l : ∀ j, j < k → B.testBit j = false) : B - (B &&& (B - 1)) = 2 ^ k := by
  have e : B = 2 ^ (k + 1) * (B / 2 ^ (k + 1)) + 2 ^ k := by
    apply Nat.eq_of_testBit_eq
    intro i
    rw [Nat.testBit_two_pow_mul_add _ (by rw [Nat.pow_succ]; have := Nat.two_pow_pos k; omega)]
    by_cases c : i < k + 1
    · rw [if_pos c, Nat.testBit_two_pow]
      by_cases d : k = i
      · rw [← d, h, decide_eq_true rfl]
      · rw [l i (by omega), decide_eq_false d]
    · rw [if_neg c, Nat.testBit_div_two_pow]
      congr 1
      omega
  generalize B / 2 ^ (k + 1) = q at e
  have tp := Nat.two_pow_pos k
  have e1 : B - 1 = 2 ^ (k + 1) * q + (2 ^ k - 1) := by omega
  have e2 : B &&& (B - 1) = 2 ^ (k + 1) * q := by
    rw [e1]
    conv => lhs; lhs; rw [e]
    apply Nat.eq_of_testBit_eq
    intro i
    rw [Nat.testBit_and, Nat.testBit_two_pow_mul_add _ (by rw [Nat.pow_succ]; omega), Nat.testBit_two_pow_mul_add _ (by rw [Nat.pow_succ]; omega), Nat.testBit_two_pow_mul]
    by_cases c : i < k + 1
    · rw [if_pos c, if_pos c, Nat.testBit_two_pow, Nat.testBit_two_pow_sub_one, decide_eq_false (show ¬ i ≥ k + 1 by omega), Bool.false_and]
      by_cases d : k = i
      · rw [decide_eq_false (show ¬ i < k by omega), Bool.and_false]
      · rw [decide_eq_false d, Bool.false_and]
    · rw [if_neg c, if_neg c, Bool.and_self, decide_eq_true (show i ≥ k + 1 by omega), Bool.true_and]
  rw [e2]
  omega
theorem bits_pow (k : Nat) : Builtin.Int.intBits (((2 ^ k : Nat)) : Int) = k + 1 := by
  have tp := Nat.two_pow_pos k
  unfold Builtin.Int.intBits
  rw [if_neg (show ¬ ((((2 ^ k : Nat)) : Int) == 0) = true from fun z => by have := eq_of_beq z; omega), Int.natAbs_natCast, Nat.log2_two_pow]
def rLow : R2 := fun x y H Q => ∃ i : Nat, x = .int i ∧ y = .int (-(i : Int)) ∧ 0 < i ∧ Q (.int ((i - (i &&& (i - 1)) : Nat) : Int)) H
section
variable {X : Cx}
theorem op_low : OpR X (binaryOp .BitAnd) rLow := by
  rintro pins s σ H x y v u Q I rx ry ⟨i, rfl, rfl, hi, q⟩
  refine L2.op_and pins s σ H _ _ v u Q I rx ry ⟨_, _, rfl, rfl, ?_⟩
  have e : Builtin.bitAnd (i : Int) (-(i : Int)) = ((i - (i &&& (i - 1)) : Nat) : Int) := by
    unfold Builtin.bitAnd
    have en : Builtin.bitNot (-(i : Int)) = ((i - 1 : Nat) : Int) := by
      show - -(i : Int) - 1 = _
      omega
    rw [decide_eq_true (show (0 : Int) ≤ i by omega), decide_eq_false (show ¬ (0 : Int) ≤ -(i : Int) by omega), en]
    show (i : Int) - (((i : Int).toNat &&& (((i - 1 : Nat) : Int)).toNat : Nat) : Int) = _
    rw [Int.toNat_natCast, Int.toNat_natCast]
    have := @Nat.and_le_left i (i - 1)
    omega
  rw [← e] at q
  exact q
end
theorem tBits_ {to : TE} {σ : L2.St} {H : Hp} {Q : VK} : tBits to σ H Q = to σ H fun x H1 => ∃ i, x = .int i ∧ Q (.int (Builtin.Int.intBits i : Nat)) H1 := rfl
/-! f-strings -/
theorem tJs_n {acc : Str} {σ : L2.St} {H : Hp} {Q : Str → Hp → Prop} : tJs [] acc σ H Q = Q acc H := rfl
theorem tJs_c {t : TE} {ts : List TE} {acc : Str} {σ : L2.St} {H : Hp} {Q : Str → Hp → Prop} : tJs (t :: ts) acc σ H Q = t σ H fun x H1 => ∃ y : Str, x = .str y ∧ (acc ++ y).length ≤ sizeLine ∧ tJs ts (acc ++ y) σ H1 Q := rfl
theorem tFmt_ {te : TE} {σ : L2.St} {H : Hp} {Q : VK} : tFmt te σ H Q = te σ H fun x H1 => (∃ y : Str, x = .str y ∧ y.length ≤ sizeLine ∧ Q (.str y) H1) ∨ ∃ i : Int, x = .int i ∧ i.natAbs.log2 < 1920 ∧ Q (.str (toString i)) H1 := rfl
/-! ### an instance of an own class -/
structure OwnC (K : PySem.W.Frag) (C : Addr) : Prop where
  cl : Cls K C
  ha : PySem.W.findIn K (.ref C) "__class__" = some (some (.builtin "object.__class__"))
  hn : PySem.W.specialIn K (.builtin "object.__class__") "__get__" = some (some (.builtin "getset_descriptor.__get__"))
  ht : PySem.W.takesIn K (.builtin "object.__class__") = some true
  hm : PySem.W.mroIn K C (.type "object") = some true
def ownB (K : PySem.W.Frag) (x : Str) : Bool :=
  (decide (PySem.W.findIn K (.ref (He.ga K x)) "__class__" = some (some (.builtin "object.__class__"))) && decide (PySem.W.specialIn K (.builtin "object.__class__") "__get__" = some (some (.builtin "getset_descriptor.__get__")))) &&
  (decide (PySem.W.takesIn K (.builtin "object.__class__") = some true) && decide (PySem.W.mroIn K (He.ga K x) (.type "object") = some true))
theorem ownB_ok {K : PySem.W.Frag} {x : Str} (h : ownB K x = true) (c : Cls K (He.ga K x)) : OwnC K (He.ga K x) := by
  unfold ownB at h
  rw [Bool.and_eq_true, Bool.and_eq_true, Bool.and_eq_true] at h
  obtain ⟨⟨h1, h2⟩, h3, h4⟩ := h
  exact ⟨c, of_decide_eq_true h1, of_decide_eq_true h2, of_decide_eq_true h3, of_decide_eq_true h4⟩
def rOwn (C : Addr) : List V → Hp → VK → Prop := fun vs H Q => ∃ a dx fs, vs = [.ref a, .ref C] ∧ H a = some (.ins C dx fs) ∧ Q (.bl true) H
theorem rOwn_ {C : Addr} {vs : List V} {H : Hp} {Q : VK} : rOwn C vs H Q = ∃ a dx fs, vs = [.ref a, .ref C] ∧ H a = some (.ins C dx fs) ∧ Q (.bl true) H := rfl
theorem call_own {X : Cx} {K : PySem.W.Frag} {C : Addr} (hK : X.K = K) (O : OwnC K C) : CallR X (.builtin "isinstance") (rOwn C) := by
  subst hK
  intro pins s σ H vs us Q I r h
  obtain ⟨a, dx, fs, rfl, ha, q⟩ := h
  cases r with
  | cons r1 rr =>
    cases rr with
    | cons r2 rr =>
      cases rr
      cases r2
      exact isinst_ok (b := true) I r1 (.ins ha O.cl O.ha O.hn O.ht O.hm) (by unfold PySem.W.kitOne; rw [if_pos (by exact beq_self_eq_true _)]) fun tk => ⟨.bl true, H, I.tok tk, rfl, q⟩
theorem gFld_ {K : PySem.W.Frag} {ta : TE} {f : Str} {v : V} {σ : L2.St} {H : Hp} {Q : L2.St → Hp → Prop} : Lc.gFld K ta f v σ H Q = ta σ H fun x H1 => ∃ a C dx fs, x = .ref a ∧ Ob.SA K H1 a f C dx fs ∧ Q σ (upd H1 a (.ins C dx (putF f v fs))) := rfl
/-! making an instance -/
theorem tMake_ {C : Addr} {sp : Sp} {dvs : List V} {E : XK} {t : TA} {σ : L2.St} {H : Hp} {Q : VK} : tMake C sp dvs E t σ H Q = t σ H fun vs H1 => ∀ x dx, H1 x = none → H1 dx = none → dx ≠ x →
  sp (.ref x :: (vs ++ dvs)) (upd (upd H1 dx (.own x)) x (.ins C dx [])) (fun v H2 => v = .non ∧ Q (.ref x) H2) E := rfl
end Lo

set_option Elab.async false
set_option linter.all false
set_option maxRecDepth 100000
set_option maxHeartbeats 2000000
/-! == and != and in of an own class, with any answer -/
namespace Oc
open PySem PySem.Spec PyProof.Rows L2 Rd Dt Dq Pk
/-- a call of a def somewhere below the running body -/
theorem call_sub {X : Cx} {CX : CXT} {n : Nat} {A : Around} {f : Addr} {fd : FuncData} {ps : List Str} {sp : Sp} {E : XK} {pins : List (Addr × Obj)} {σ : L2.St} {H : Hp} {s : Shared} {vs : List V} {us : List Value} {Q : VK}
    (sb : L2.Sub X n A) (F : FnOk X.prog X.w X.K X.mg X.base CX n f fd ps sp) (hb : Binds X.K fd ps []) (hx : Passes CX X E) (I : Inv X pins σ H s) (rv : Vals vs us) (hsp : sp vs H Q E) :
    wpAny (model X.prog X.w) A (call (.ref f) us) (EP X pins σ Q) X.xe s := by
  have e0 : Env0 X.prog X.w X.K X.mg X.base A X.stack s H := by
    have e := I.env0
    exact ⟨by rw [sb.fr]; exact e.frames, e.mod, e.bs, e.bsz, e.funs, e.frf, e.hok, e.bare⟩
  have hl := F.len _ _ _ _ hsp
  have hlu : us.length = ps.length := rv.length.symm.trans hl
  have hbt := hb s us I.kIn (by rw [List.append_nil]; exact hlu)
  rw [List.append_nil] at hbt
  refine wpAny_call (codeAny_mono (F.run A X.stack s H ⟨us, []⟩ us vs Q E sb.room e0 hbt rv hsp) fun r s' hq => ?_)
  cases r with
  | error e => exact hx pins σ H s e s' I hq
  | ok fl =>
    cases fl with
    | ret w => exact I.after hq
    | next => exact False.elim hq
    | brk => exact False.elim hq
    | cont => exact False.elim hq
/-- the other side: an instance of the class, or a text -/
inductive Oth (K : PySem.W.Frag) (C : Addr) (H : Hp) : V → Prop
  | ins {b dy : Addr} {gs : List (Str × V)} : H b = some (.ins C dy gs) → Oth K C H (.ref b)
  | str (x : Str) : PySem.W.notFirst K C (.type "str") = true → Oth K C H (.str x)
  | int (i : Int) : PySem.W.notFirst K C (.type "int") = true → Oth K C H (.int i)
  | tup {b : Addr} {xs : List V} : PySem.W.notFirst K C (.type "tuple") = true → SqT K H b xs → Oth K C H (.ref b)
theorem Oth.looks {X : Cx} {C : Addr} {pins : List (Addr × Obj)} {σ : L2.St} {H : Hp} {s : Shared} {y : V} {u : Value} (I : Inv X pins σ H s) (o : Oth X.K C H y) (ry : RelV y u) : ∃ tb, PySem.W.Looks (model X.prog X.w) s.heap (typeOf u) tb ∧ PySem.W.notFirst X.K C tb = true := by
  cases o with
  | ins hb =>
    cases ry
    obtain ⟨m, J, _⟩ := ins_get I.hok hb
    obtain ⟨od, J, _⟩ := J.look
    exact ⟨_, J.type, by simp [PySem.W.notFirst]⟩
  | str x h =>
    obtain ⟨t, rfl⟩ := ry
    exact ⟨_, PySem.W.Looks.of_pure rfl, h⟩
  | int x h =>
    obtain ⟨t, rfl⟩ := ry
    exact ⟨_, PySem.W.Looks.of_pure rfl, h⟩
  | tup h hb =>
    cases ry
    obtain ⟨its, _, ⟨o, ho, hc, _⟩, _⟩ := I.tuple hb
    refine ⟨_, ?_, h⟩
    rw [← hc]
    exact (PySem.W.Looks.ld ho).andThen .now
structure EqK (K : PySem.W.Frag) (C f : Addr) : Prop where
  s : PySem.W.findIn K (.ref C) "__eq__" = some (some (.ref f))
  i : PySem.W.isFn K (.ref f) = true
/-- what an own __eq__ answers, used as == and as != -/
def rEqO (K : PySem.W.Frag) (C : Addr) (sp : Sp) : R2 := fun x y H Q => ∃ a dx fs, x = .ref a ∧ H a = some (.ins C dx fs) ∧ Oth K C H y ∧ sp [x, y] H (fun v H' => ∃ b, v = .bl b ∧ Q (.bl b) H') (fun _ _ _ => False)
def rNeO (K : PySem.W.Frag) (C : Addr) (sp : Sp) : R2 := fun x y H Q => ∃ a dx fs, x = .ref a ∧ H a = some (.ins C dx fs) ∧ Oth K C H y ∧ sp [x, y] H (fun v H' => ∃ b, v = .bl b ∧ Q (.bl (!b)) H') (fun _ _ _ => False)
section
variable {X : Cx} {CX : CXT} {n : Nat} {C f : Addr} {fd : FuncData} {ps : List Str} {sp : Sp}
theorem op_eqO {K : PySem.W.Frag} (hK : X.K = K) (hr : Room n X.A) (e : EqK K C f) (F : FnOk X.prog X.w X.K X.mg X.base CX n f fd ps sp) (hb : Binds X.K fd ps []) (hx : Passes CX X (fun _ _ _ => False)) : OpR X (compareOp .Eq) (rEqO K C sp) := by
  subst hK
  intro pins s σ H x y v u Q I rx ry h
  obtain ⟨a, dx, fs, rfl, ha, ho, hsp⟩ := h
  cases rx
  obtain ⟨mA, J, _⟩ := ins_get I.hok ha
  obtain ⟨od, J, _⟩ := J.look
  obtain ⟨tb, lb, nb⟩ := ho.looks I ry
  obtain ⟨m, hF⟩ := I.fr
  show wpAny _ _ (richCompare .Eq (.ref a) u) _ _ _
  refine PySem.W.cmp_K (op := .Eq) hr.units0 hF I.ok.mod.kin J lb nb e.s e.i ?_
  refine wpAny_mono (call_sub ⟨hr, rfl⟩ F hb hx I (.cons (show RelV (.ref a) (.ref a) from rfl) (.cons ry .nil)) hsp) (fun r s' z => ?_) fun _ _ z => z
  obtain ⟨w, H', I', rw', b, rfl, q⟩ := z
  cases (show r = .bool b from rw')
  exact ⟨.bl b, H', I', rfl, q⟩
/-! the != that comes of it -/
theorem ifBoundB {prog : Program} {w : World} {A : Around} {E : Value → Shared → Prop} {s : Shared} {K : PySem.W.Frag} {x C : Addr} {ox : Obj} {od : Option Obj} {name : Str} {id : String} {args : List Value} {Q : Option Value → Shared → Prop} (Z : K.In s.heap) (I : PySem.W.InstAt s.heap x ox C od) (hs : PySem.W.findIn K (.ref C) name = some (some (.builtin id)))
    (hb : ∀ self, bindSpecial (.builtin id) self = pure (.builtin id, [self])) (h : wpAny (model prog w) A (call (.builtin id) (.ref x :: args)) (fun v => Q (some v)) E s) : wpAny (model prog w) A (callSpecialIfBound? (.ref x) name args) Q E s := by
  simp only [callSpecialIfBound?, bindSpecialIfBound?]
  refine wpAny_holding (wpAny_bind (wpAny_bind (wpAny_bind (I.type.here ((PySem.W.looks_findIn Z hs).here ?_)))))
  simp only [hb]
  refine wpAny_bind (wpAny_askSetting (wpAny_ite ?_))
  have goal : wpAny (model prog w) A (call (.builtin id) ([.ref x] ++ args) >>= fun v => pure (some v)) Q E s := wpAny_bind (wpAny_mono h (fun v s' z => wpAny_pure z) fun _ _ z => z)
  split
  · exact wpAny_bind (wpAny_pure (wpAny_pure (by exact goal)))
  · exact wpAny_tryCatch (wpAny_bind (wpAny_pure (wpAny_pure (by exact goal))))
structure NeK (K : PySem.W.Frag) (C f : Addr) : Prop extends EqK K C f where
  ne : PySem.W.findIn K (.ref C) "__ne__" = some (some (.builtin "object.__ne__"))
  ob : PySem.W.mroIn K C (.type "object") = some true
theorem op_neO {K : PySem.W.Frag} (hK : X.K = K) (hr : Room (n + 1) X.A) (e : NeK K C f) (F : FnOk X.prog X.w X.K X.mg X.base CX n f fd ps sp) (hb : Binds X.K fd ps []) (hx : Passes CX X (fun _ _ _ => False)) : OpR X (compareOp .NotEq) (rNeO K C sp) := by
  subst hK
  intro pins s σ H x y v u Q I rx ry h
  obtain ⟨a, dx, fs, rfl, ha, ho, hsp⟩ := h
  cases rx
  obtain ⟨mA, J, _⟩ := ins_get I.hok ha
  obtain ⟨od, J, _⟩ := J.look
  obtain ⟨tb, lb, nb⟩ := ho.looks I ry
  have one : wpAny (model X.prog X.w) X.A (tryCompare (.ref a) "__ne__" u) (fun r s' => ∃ v, r = some v ∧ EP X pins σ Q v s') X.xe s := by
    unfold tryCompare
    refine wpAny_bind (ifBoundB I.kIn J e.ne PySem.F.cmp_object.ne.bind ?_)
    refine wpAny_call (codeAny_call_builtin PySem.F.cmp_object.ne.plain PySem.F.cmpEntry_ne (PySem.W.check_slot PySem.F.cmpKind_ne PySem.F.cmpSplit_ne (J.type.andThen (PySem.W.looks_mroIn I.kIn e.ob)) (PySem.F.cmpArgs_ne _ _) ?_))
    unfold Builtin.«object.__ne__»
    refine wpAny_bind (m := slotArgs "__ne__" 1 _) (wpAny_pure ?_)
    refine wpAny_bind (m := cRoomFor _ _) (wpAny_cRoomFor hr.in1.units0 ?_)
    refine wpAny_bind (m := callSpecialIfBound? (.ref a) (Str.ofString "__eq__") _) (PySem.W.ifBound_K I.kIn J e.s e.i (wpAny_mono (call_sub ⟨hr.in1, rfl⟩ F hb hx I (.cons (show RelV (.ref a) (.ref a) from rfl) (.cons ry .nil)) hsp) (fun r s' z => ?_) fun _ _ z => z))
    obtain ⟨w, H', I', rw', b, rfl, q⟩ := z
    cases (show r = .bool b from rw')
    refine wpAny_bind (m := truthy (.bool b)) (wpAny_truthy_bool (wpAny_pure ?_))
    exact wpAny_pure ⟨.bool (!b), rfl, .bl (!b), H', I', rfl, q⟩
  show wpAny _ _ (richCompare .NotEq (.ref a) u) _ _ _
  unfold richCompare
  simp only [oneThing_ref]
  refine wpAny_holding ?_
  refine wpAny_bind (wpAny_cRoomFor hr.units0 ?_)
  rw [cmpInfo_NotEq]
  dsimp only
  refine wpAny_bind (J.type.here ?_)
  refine wpAny_bind (lb.here ?_)
  split
  · rename_i hne
    have sf : PySem.W.subIn X.K tb (.ref C) = some false := by
      unfold PySem.W.notFirst at nb
      rcases Bool.or_eq_true_iff.mp nb with z | z
      · rw [bne_iff_ne] at hne
        exact absurd (beq_iff_eq.mp z).symm hne
      · exact beq_iff_eq.mp z
    refine wpAny_bind ((PySem.W.looks_subIn I.kIn sf).here ?_)
    rw [if_neg (by decide)]
    refine wpAny_bind (wpAny_mono one (fun r s' z => ?_) fun _ _ z => z)
    obtain ⟨z, rfl, hz⟩ := z
    exact wpAny_pure hz
  · refine wpAny_bind (wpAny_pure ?_)
    rw [if_neg (by decide)]
    refine wpAny_bind (wpAny_mono one (fun r s' z => ?_) fun _ _ z => z)
    obtain ⟨z, rfl, hz⟩ := z
    exact wpAny_pure hz
end
/-! in -/
def rInO (K : PySem.W.Frag) (C : Addr) (sp : Sp) : R2 := fun x y H Q => ∃ a dx fs, y = .ref a ∧ H a = some (.ins C dx fs) ∧ sp [y, x] H (fun v H' => ∃ b, v = .bl b ∧ Q (.bl b) H') (fun _ _ _ => False)
theorem op_inO {X : Cx} {CX : CXT} {n : Nat} {C f : Addr} {fd : FuncData} {ps : List Str} {sp : Sp} {K : PySem.W.Frag} (hK : X.K = K) (hr : Room n X.A) (hs : PySem.W.findIn K (.ref C) "__contains__" = some (some (.ref f))) (hi : PySem.W.isFn K (.ref f) = true) (F : FnOk X.prog X.w X.K X.mg X.base CX n f fd ps sp) (hb : Binds X.K fd ps []) (hx : Passes CX X (fun _ _ _ => False)) : OpR X (compareOp .In) (rInO K C sp) := by
  subst hK
  intro pins s σ H x y v u Q I rx ry h
  obtain ⟨a, dx, fs, rfl, ha, hsp⟩ := h
  cases ry
  obtain ⟨mA, J, _⟩ := ins_get I.hok ha
  obtain ⟨od, J, _⟩ := J.look
  show wpAny _ _ (contains (.ref a) v >>= fun b => pure (Value.bool b)) _ _ _
  refine wpAny_bind ?_
  unfold contains
  refine wpAny_holding ?_
  rw [stdlibNamesSay?_ref]
  refine wpAny_bind (m := specialOf (.ref a) (Str.ofString "__contains__")) (wpAny_bind (J.type.here ((PySem.W.looks_findIn I.kIn hs).here ?_)))
  dsimp only
  rw [if_neg (show ¬ ((some (Value.ref f) == some Value.none) = true) from fun z => by have := eq_of_beq z; injection this with this; cases this)]
  refine wpAny_bind ?_
  unfold callSpecialUnlessNone?
  refine wpAny_bind (m := specialOf (.ref a) (Str.ofString "__contains__")) (wpAny_bind (J.type.here ((PySem.W.looks_findIn I.kIn hs).here ?_)))
  refine wpAny_holding (wpAny_bind ((PySem.W.bind_fn I.kIn _ (beq_iff_eq.mp hi)).here ?_))
  dsimp only
  rw [if_neg (show ¬ ((Value.ref f == Value.none) = true) from fun z => by have := eq_of_beq z; cases this)]
  refine wpAny_bind (wpAny_mono (call_sub ⟨hr, rfl⟩ F hb hx I (.cons (show RelV (.ref a) (.ref a) from rfl) (.cons rx .nil)) hsp) (fun r s' z => ?_) fun _ _ z => z)
  obtain ⟨w, H', I', rw', b, rfl, q⟩ := z
  cases (show r = .bool b from rw')
  refine wpAny_pure ?_
  exact wpAny_truthy_bool (wpAny_pure ⟨.bl b, H', I', rfl, q⟩)
end Oc

set_option Elab.async false
set_option linter.all false
set_option maxRecDepth 100000
set_option maxHeartbeats 2000000
/-! xs[::-1] of a list; an instance made by keywords alone -/
namespace Rv
open PySem PySem.Spec PyProof.Rows L2 Rd Dt Dq Pk
def tRevL (K : PySem.W.Frag) (te tk : TE) : TE := fun σ H Q => te σ H fun x H1 => tk σ H1 fun y H2 => y = .int (-1) ∧ ∃ a xs, x = .ref a ∧ SqL K H2 a xs ∧ ∀ p, H2 p = none → Q (.ref p) (upd H2 p (.lst xs.reverse))
theorem tRevL_ {K : PySem.W.Frag} {te tk : TE} {σ : L2.St} {H : Hp} {Q : VK} : tRevL K te tk σ H Q = te σ H fun x H1 => tk σ H1 fun y H2 => y = .int (-1) ∧ ∃ a xs, x = .ref a ∧ SqL K H2 a xs ∧ ∀ p, H2 p = none → Q (.ref p) (upd H2 p (.lst xs.reverse)) := rfl
theorem vals_rev : ∀ {vs : List V} {us : List Value}, Vals vs us → Vals vs.reverse us.reverse
  | [], _, .nil => .nil
  | v :: vs, _, .cons h r => by
    rw [List.reverse_cons, List.reverse_cons]
    exact (vals_rev r).append (.cons h .nil)
theorem pe_rev {X : Cx} {K : PySem.W.Frag} {e k : Expr} {te tk : TE} {p2 pos : Pos} (hK : X.K = K) (he : PE X e te) (hk : PE X k tk) : PE X (.Subscript e (.Slice none none (some k) p2) pos) (tRevL K te tk) := by
  subst hK
  refine ⟨fun pins s σ H Q I h => ?_⟩
  refine Subscript_ (thn (he.run pins s σ H _ I h) fun v s1 ⟨x, H1, I1, r1, q1⟩ => ?_)
  refine wpAny_Slice ?_
  rw [evalPart_none]
  refine wpAny_pure ?_
  refine wpAny_pure ?_
  rw [evalPart_some]
  refine thn (hk.run pins s1 σ H1 _ I1 q1) fun vk s3 ⟨y, H3, I3, r3, q3⟩ => ?_
  obtain ⟨rfl, a, xs, rfl, hx, q⟩ := q3
  obtain ⟨tk', rfl⟩ := r3
  cases r1
  have I4 : Inv X pins σ H3 { s3 with heap := s3.heap.push { cls := .type "slice", data := .fields #[.none, .none, .int (-1) tk'] } } := I3.kept (t' := s3.toks) fun b ob z => Heap.get?_push_of_some _ z
  obtain ⟨its, r, ht, hz⟩ := I4.list hx
  have hlen := r.length
  show wpAny (model X.prog X.w) X.A (subscriptTail e (.Slice none none (some k) p2) (.ref a) (.ref s3.heap.objs.size)) (EP X pins σ Q) X.xe { s3 with heap := s3.heap.push { cls := .type "slice", data := .fields #[.none, .none, .int (-1) tk'] } }
  refine tail_any (ops := [.ref a, .ref s3.heap.objs.size]) ht.isList.typeIs slot_list_getitem.lookup ?_ (by with_unfolding_all rfl)
  refine wpAny_getItem_list_slice ht.isList (Heap.IsSliceOf.new ..) .none .none (.int (-1) tk') (by decide) ?_ (by rw [List.size_toArray]; omega)
  rw [PySem.W.krv_pick]
  refine ⟨.ref _, _, I4.laid (t' := s3.toks) (o := .lst xs.reverse) (fun b ob z => Heap.get?_push_of_some _ z) (Nat.le_refl _) ?_, rfl, q _ (I4.hok.fresh (Nat.le_refl _))⟩
  exact ⟨by rw [List.length_reverse]; exact hz, _, 0, vals_rev r, Heap.get?_push_size _ rfl⟩
/-- C(k = v, ..) -/
def tMakeKw (C : Addr) (m : Nat) (sp : Sp) (gV : List V → List V) (E : XK) (tk : TA) : TE := fun σ H Q => tk σ H fun zs H2 => zs.length = m ∧ ∀ x dx, H2 x = none → H2 dx = none → dx ≠ x → sp (.ref x :: gV zs) (upd (upd H2 dx (.own x)) x (.ins C dx [])) (fun v H3 => v = .non ∧ Q (.ref x) H3) E
theorem tMakeKw_ {C : Addr} {m : Nat} {sp : Sp} {gV : List V → List V} {E : XK} {tk : TA} {σ : L2.St} {H : Hp} {Q : VK} : tMakeKw C m sp gV E tk σ H Q = tk σ H fun zs H2 => zs.length = m ∧ ∀ x dx, H2 x = none → H2 dx = none → dx ≠ x → sp (.ref x :: gV zs) (upd (upd H2 dx (.own x)) x (.ins C dx [])) (fun v H3 => v = .non ∧ Q (.ref x) H3) E := rfl
section
variable {X : Cx} {CX : CXT} {k : Nat} {f C : Addr} {fd : FuncData} {ps ks : List Str} {sp : Sp} {E : XK} {x : Str} {p pos : Pos} {kws : List Keyword} {tk : TA} {g : List Value → List Value} {gV : List V → List V}
theorem pe_makeKw (M : Mk X.K C f) (F : FnOk X.prog X.w X.K X.mg X.base CX k f fd ps sp) (hr : Room (k + 1) X.A) (hg : Gl X x) (hm : X.mg x = some (.ref C)) (hb : KBn X.K fd ps 1 ks (fun us ws => us ++ g ws) (fun vs zs => vs ++ gV zs)) (hx : Passes CX X E) (hkw : PK X kws tk)
    (hall : (backToKw pos (keywordEach kws X.env)).all (·.1.isSome) = true := by rfl) (hks : (backToKw pos (keywordEach kws X.env)).filterMap (·.1) = ks := by rfl)
    (hdb : (x == ("__debug__" : Str)) = false := by decide)
    (hpl : ((backTo pos (starEach [] X.env)).any (·.1) || (backToKw pos (keywordEach kws X.env)).any (·.1.isNone)) = false := by rfl) :
    PE X (.Call (.Name x p) [] kws pos) (tMakeKw C ks.length sp gV E tk) := by
  constructor
  intro pins s σ H Q I h
  refine wpAny_Call_Name_kw (ld_glob I hg hm ?_ hdb)
  refine PySem.W.callWith_KW0 (h₀ := X.base) I.ok.mod.kin M.kp hall ?_ hpl
  refine thn (hkw.run pos pins s σ H _ I h) ?_
  rintro ws s2 ⟨zs, H2, I2, rz, l2, q2⟩
  refine ⟨I2.kIn, ?_⟩
  rw [hks]
  exact run_makeN (n := 0) (us := []) (vs := []) M F hr hb hx I2 .nil rz rfl l2 q2
end
/-- the keywords' names as given -/
theorem kbn1 {K : PySem.W.Frag} {x qual : Str} {params : Arguments} {body : List Stmt} {scope : Scope} {f : Addr} {fd : FuncData} {ps : List Str} (F : FunD K x qual params body scope [] [] f fd) (ks : List Str)
    (h : ∀ (kV doc pm : Value) (an : Option Addr) (cdv ct : Value) (u : Value) (ws : List Value), ws.length = ks.length → bindArgs (PySem.W.fnOf x qual params body scope .none kV doc pm an cdv ct) ⟨[u], ks.zip ws⟩ = pure (ps.zip (u :: ws))) :
    KBn K fd ps 1 ks (fun us ws => us ++ ws) (fun vs zs => vs ++ zs) := by
  obtain ⟨oc, od, dV, kV, doc, pm, an, cdv, ct, sl, e, lk, hcd, hD, hK⟩ := F.ex
  rcases hD with ⟨_, e2⟩ | ⟨z, _⟩
  · subst e2 e
    refine ⟨fun s us ws Z l1 l2 => ?_, fun r r' => r.append r'⟩
    obtain ⟨u, rfl⟩ : ∃ u, us = [u] := by
      match us, l1 with
      | [u], _ => exact ⟨u, rfl⟩
    exact .of_eq (h kV doc pm an cdv ct u ws l2)
  · exact absurd rfl z
end Rv

set_option Elab.async false
set_option linter.all false
set_option maxRecDepth 100000
set_option maxHeartbeats 2000000
/-! enumerate(tuple); dict(tuple of pairs) -/
namespace En
open PySem PySem.Spec PyProof.Rows L2 Rd Dt Dq Pk
/-- the tuple at a, each item in a new pair -/
def ItU (K : PySem.W.Frag) (a : Addr) : It :=
  ⟨fun i H => ∃ (xs : List V) (x : V), SqT K H a xs ∧ xs[i]? = some x, fun i H v H' => ∃ N x, v = .ref N ∧ H N = none ∧ H' = upd H N (.tup [.int (i : Nat), x]) ∧ ∀ xs, SqT K H a xs → xs[i]? = some x, fun i H => ∃ xs : List V, SqT K H a xs ∧ xs.length = i⟩
theorem turn_tupEnum {P : Program} {w : World} {K : PySem.W.Frag} {elts : List Expr} {kk : Nat} {tpos : Pos} (a e it : Addr) :
    Turn P w K (.Tuple elts kk tpos) (ItU K a) [e, it] e (fun i h => (∃ old, IsEnum h e it ((i : Nat) : Int) old) ∧ h.IsTupleIter it a i ∧ e ≠ it ∧ a ≠ it ∧ e ≠ a) where
  mem := by simp
  obj := fun i h st b hb => by
    obtain ⟨⟨old, h1⟩, ⟨o, g1, g2, g3⟩, _⟩ := st
    rcases (show b = e ∨ b = it by simpa using hb) with z | z
    · subst z; exact ⟨_, h1, fun v q => nomatch q⟩
    · subst z; exact ⟨o, g1, fun v q => by rw [g3] at q; cases q⟩
  keep := fun i h h' st k => by
    obtain ⟨⟨old, h1⟩, h2, h3⟩ := st
    exact ⟨⟨old, k e (by simp) _ h1⟩, h2.at fun o q => k it (by simp) o q, h3⟩
  item := by
    intro X hP hw hK hc i pins s σ H E I hf st hg
    subst hP hw hK
    obtain ⟨⟨old, h1⟩, h2, n1, n2, n3⟩ := st
    obtain ⟨xs, x, hq, hx⟩ := hg
    obtain ⟨us, rv, tp, hz⟩ := I.tuple hq
    obtain ⟨u, hu, ru⟩ := rv.get hx
    have lt1 : e < s.heap.objs.size := Heap.lt_size h1
    have lt2 : it < s.heap.objs.size := by
      obtain ⟨_, q, _⟩ := h2
      exact Heap.lt_size q
    have li : i < us.toArray.size := by
      have := (List.getElem?_eq_some_iff.mp hu).1
      simpa using this
    have D := Draws.tuple (prog := X.prog) (w := X.w) (A := X.A.in1) (show X.A.in1.handled = none from I.ok.hd hc) it a n2 us.toArray
    refine wpAny_pyNext_enum_itemD D h1 ⟨h2, tp⟩ li n1 (by simp [n1, n3]) fun y h' tk py ho hit' hT hsz hk => ?_
    obtain rfl : y = u := by
      have e1 : us.toArray[i]? = some y := py
      rw [List.getElem?_toArray, hu] at e1
      exact (Option.some.inj e1).symm
    refine ⟨_, rfl, wpAny_letOwnedTupleGo_enum (s := { s with heap := h', toks := tk + 1 }) ho fun h2' he' sb => ?_⟩
    have gT : h2'.get? s.heap.objs.size = some { cls := .type "tuple", data := .seq #[.int i tk, y] } := (sb.2 _ (Nat.ne_of_gt lt1)).trans hT
    have fresh := I.hok.fresh (Nat.le_refl s.heap.objs.size)
    have okn : ObjOk X.prog X.w (upd H s.heap.objs.size (.tup [.int (i : Nat), x])) h2' s.heap.objs.size (.tup [.int (i : Nat), x]) := ⟨(show 2 ≤ sizeLine by rw [sizeLine_eq]; decide), [.int i tk, y], .cons ⟨_, rfl⟩ (.cons ru .nil), ⟨_, gT, rfl, _, rfl⟩⟩
    have J : Inv X pins σ (upd H s.heap.objs.size (.tup [.int (i : Nat), x])) { s with heap := h2', toks := tk + 1 } :=
      I.turnedNew (t' := tk + 1) (ch := [e, it]) (fun b ob hb q => (sb.2 b (fun z => hb (by rw [z]; simp))).trans (hk b ob (fun z => hb (by rw [z]; simp)) (fun z => hb (by rw [z]; simp)) q)) hf (Nat.le_refl _) okn
    refine ⟨.ref s.heap.objs.size, _, J, rfl, ⟨_, x, rfl, fresh, rfl, fun ys hy => by rw [I.tuple_inj hy hq]; exact hx⟩, ⟨⟨y, by rw [show ((i + 1 : Nat) : Int) = (i : Int) + 1 by omega]; exact he'⟩, hit'.1.at fun o q => (sb.2 it (Ne.symm n1)).trans q, n1, n2, n3⟩, fun b hb => ?_⟩
    have lb : b < s.heap.objs.size := by
      rcases (show b = e ∨ b = it by simpa using hb) with z | z
      · rw [z]; exact lt1
      · rw [z]; exact lt2
    rw [upd_ne (Nat.ne_of_lt lb)]
    exact (hf b hb).1
  done := by
    intro X hP hw hK hc i pins s σ H E I hf st hg
    subst hP hw hK
    obtain ⟨⟨old, h1⟩, h2, n1, n2, n3⟩ := st
    obtain ⟨xs, hq, hx⟩ := hg
    obtain ⟨us, rv, tp, hz⟩ := I.tuple hq
    obtain ⟨f0, f1, f2, f3, f4, f5⟩ := hf it (by simp)
    have hl := rv.length
    have sz : us.toArray.size = i := by rw [List.size_toArray, ← hl, hx]
    have D := Draws.tuple (prog := X.prog) (w := X.w) (A := X.A.in1) (show X.A.in1.handled = none from I.ok.hd hc) it a n2 us.toArray
    refine wpAny_pyNext_enum_endD D h1 (by rw [sz]; exact ⟨h2, tp⟩) fun h' eb => ⟨rfl, I.turned (t' := s.toks) (fun b o hb q => eb b o hb q) f0 f1 f3 f4 f5⟩
  self := fun A i s Q E st h => by
    obtain ⟨⟨_, h1⟩, _⟩ := st
    exact wpAny_pyIter_enum h1 h
def iEnumT (K : PySem.W.Frag) (ta : TA) : TI := fun σ H R => ta σ H fun vs H1 => ∃ a xs, vs = [.ref a] ∧ SqT K H1 a xs ∧ R (ItU K a) H1
set_option maxHeartbeats 1000000 in
/-- enumerate(v) makes two objects -/
theorem made_enum {v : Value} {ob : Obj} {Hs : Heap → Prop} (B : Begins v ob Hs) :
    Meets (Builtin.«enumerate.__new__» ⟨[.type "enumerate", v], []⟩) (fun _ R s => Hs s.heap ∧
      R (.ok (.ret (.ref (s.heap.push ob).objs.size))) { s with heap := (s.heap.push ob).push { cls := .type "enumerate", data := .fields #[.none, .bool false, .ref s.heap.objs.size, rawInt 0, .none, .none] } }) :=
  .of_wp fun prog w A R s hy => by
    obtain ⟨hp, g, d, tk, os⟩ := s
    obtain ⟨y1, y2⟩ := hy
    have z0 := sub_enumerate
    have it1 : ∀ {A' : Around} {E : Value → Shared → Prop} {Q : Value → Shared → Prop}, Q (.ref hp.objs.size) ⟨hp.push ob, g, d, tk, os⟩ → wpAny (model prog w) A' (pyIter v) Q E ⟨hp, g, d, tk, os⟩ := fun q => B.iter _ _ _ _ ⟨hp, g, d, tk, os⟩ _ y1 q
    wp_walk using it1
    refine wpAny_stack_any fun st => wpAny_pure ?_
    split
    · rename_i c _ _ _ _ _
      cases (c == Value.type "enumerate") <;> (wp_walk using it1; exact ⟨_, rfl, y2⟩)
    · wp_walk using it1
      exact ⟨_, rfl, y2⟩
theorem call_enum {prog : Program} {w : World} {A : Around} {E : Value → Shared → Prop} {s : Shared} {v : Value} {ob : Obj} {Hs : Heap → Prop} {Q : Value → Shared → Prop} (B : Begins v ob Hs) (h1 : Hs s.heap)
    (k : ∀ h', IsEnum h' (s.heap.objs.size + 1) s.heap.objs.size 0 .none → h'.get? s.heap.objs.size = some ob → (∀ b o, s.heap.get? b = some o → h'.get? b = some o) → Q (.ref (s.heap.objs.size + 1)) { s with heap := h' }) :
    wpAny (model prog w) A (call (.type "enumerate") [v]) Q E s := by
  refine callType_new F.called_enumerate (by decide) (F.typeCall_enumerate_1 _) (F.newCall_enumerate_1 _) (fun obj => F.args_object_init_2 obj _) F.entry_enumerate_new (made_enum B) ⟨h1, ?_⟩
  have sz : (s.heap.push ob).objs.size = s.heap.objs.size + 1 := Heap.size_push ..
  have he := Heap.get?_push_size (s.heap.push ob) (o := { cls := .type "enumerate", data := .fields #[.none, .bool false, .ref s.heap.objs.size, rawInt 0, .none, .none] }) rfl
  rw [sz] at he
  show _ ∧ _
  rw [sz]
  exact ⟨⟨_, he, rfl⟩, k _ he (Heap.get?_push_of_some _ (Heap.get?_push_size _ B.free)) fun b o x => Heap.get?_push_of_some _ (Heap.get?_push_of_some _ x)⟩
theorem pi_enumT {X : Cx} {K : PySem.W.Frag} {e : Expr} {ta : TA} {p pos tpos : Pos} {elts : List Expr} {kk : Nat} (hK : X.K = K) (hg : Gl X "enumerate") (hm : X.mg "enumerate" = none) (ha : PA X [e] ta) (hs : starEach [e] X.env = [(false, eval e X.env)] := by rfl) :
    PI X (.Tuple elts kk tpos) (.Call (.Name "enumerate" p) [e] [] pos) (iEnumT K ta) := by
  subst hK
  refine ⟨fun pins s σ H R I h => ?_⟩
  refine Call_ (ld_blt I hg hm boot_enumerate (PyProof.Rows.callWith_type1 (thn (ha.run pos pins s σ H _ I h) fun us s1 ⟨vs, H1, I1, r1, q1⟩ => ?_) hs rfl))
  obtain ⟨a, xs, rfl, hq, q⟩ := q1
  cases r1 with
  | cons r rr =>
    cases rr
    cases r
    obtain ⟨its, rv, tp, hz⟩ := I1.tuple hq
    have la : a < s1.heap.objs.size := by
      obtain ⟨o, ho, _⟩ := tp
      exact Heap.lt_size ho
    refine call_enum (begins_tuple a its.toArray) tp fun h' he hit hk => wpAny_pyIter_enum he ?_
    have I2 : Inv X pins σ H1 { s1 with heap := h' } := I1.kept (t' := s1.toks) hk
    refine ⟨s1.heap.objs.size + 1, [s1.heap.objs.size + 1, s1.heap.objs.size], _, _, H1, rfl, I2, turn_tupEnum a (s1.heap.objs.size + 1) s1.heap.objs.size, ⟨⟨.none, he⟩, ⟨_, hit, rfl, rfl⟩, Nat.succ_ne_self _, Nat.ne_of_lt la, Nat.ne_of_gt (Nat.lt_succ_of_lt la)⟩, fun b hb => ?_, q⟩
    have hle : s1.heap.objs.size ≤ b := by
      rcases (show b = s1.heap.objs.size + 1 ∨ b = s1.heap.objs.size by simpa using hb) with z | z
      · rw [z]; exact Nat.le_succ _
      · rw [z]; exact Nat.le_refl _
    exact I1.fpOk hle (I1.hok.fresh hle)
section
variable {K : PySem.W.Frag} {ta : TA} {g : TG} {tb : TS} {D : Ends} {σ : L2.St} {H : Hp} {tt : TT} {te : TE} {vs : List Nat} {Q : VK}
theorem tFor_enumT : tFor (iEnumT K ta) g tb D σ H = ta σ H fun vs H1 => ∃ a xs, vs = [.ref a] ∧ SqT K H1 a xs ∧ tFor (fun _ H R => R (ItU K a) H) g tb D σ H1 := by
  unfold tFor iEnumT
  rfl
theorem walk_enumT {a : Addr} {xs : List V} : Walk (ItU K a) xs.length (fun H => SqT K H a xs) (fun i H v H' => ∃ N x, v = .ref N ∧ H N = none ∧ H' = upd H N (.tup [.int (i : Nat), x]) ∧ xs[i]? = some x) :=
  ⟨fun i H hi h => ⟨xs, _, h, List.getElem?_eq_getElem hi⟩, fun H h => ⟨xs, h, rfl⟩, fun i H x H' hi h ⟨N, y, e1, e2, e3, e4⟩ => ⟨N, y, e1, e2, e3, e4 xs h⟩⟩
/-- a for over enumerate(tuple), by an invariant -/
theorem for_enumT {a : Addr} {xs : List V} (Pv : Nat → L2.St → Hp → Prop) (h0 : Pv 0 σ H) (hl : ∀ i σ H, i ≤ xs.length → Pv i σ H → SqT K H a xs)
    (hs : ∀ i x σ H N, xs[i]? = some x → Pv i σ H → H N = none → g (.ref N) σ (upd H N (.tup [.int (i : Nat), x])) fun σ2 H2 => tb { D with nx := Pv (i + 1), ct := Pv (i + 1), bk := D.nx } σ2 H2) (hd : ∀ σ H, Pv xs.length σ H → D.nx σ H) :
    tFor (fun _ H R => R (ItU K a) H) g tb D σ H := for_it walk_enumT Pv h0 hl (fun i x σ H H' hi hp hy => by
      obtain ⟨N, y, rfl, hN, rfl, hx⟩ := hy
      exact hs i y σ H N hx hp hN) hd
end
/-! ### plain tuples: the object has no dict of its own -/
def PlO (o : Obj) : Prop := o.cls = .type "tuple" ∧ o.dict = none
def PlT (H : Hp) (a : Addr) (xs : List V) : Prop := ∃ o, H a = some (.frz o (.tup xs)) ∧ PlO o
theorem PlT.sqt {K : PySem.W.Frag} {H : Hp} {a : Addr} {xs : List V} (h : PlT H a xs) : SqT K H a xs := by
  obtain ⟨o, e, _⟩ := h
  exact .inl (.inr ⟨o, e⟩)
theorem PlT.keep {H H' : Hp} {a : Addr} {xs : List V} (h : PlT H a xs) (s : ∀ o, H a = some o → H' a = some o) : PlT H' a xs := by
  obtain ⟨o, e, q⟩ := h
  exact ⟨o, s _ e, q⟩
theorem PlT.new {H : Hp} {a : Addr} {xs : List V} {o : Obj} (h : PlO o) : PlT (upd H a (.frz o (.tup xs))) a xs := ⟨o, upd_same, h⟩
section
variable {X : Cx} {K : PySem.W.Frag}
theorem laid_plain {pins : List (Addr × Obj)} {σ : L2.St} {H : Hp} {s : Shared} {ys : List V} {its : List Value} (I : Inv X pins σ H s) (r : Vals ys its) (z : ys.length ≤ sizeLine) :
    Inv X pins σ (upd H s.heap.objs.size (.frz { cls := .type "tuple", data := .seq its.toArray } (.tup ys))) { s with heap := s.heap.push { cls := .type "tuple", data := .seq its.toArray } } :=
  I.laid (t' := s.toks) (fun b o e => Heap.get?_push_of_some _ e) (Nat.le_refl _) ⟨Heap.get?_push_size _ rfl, z, its, r, IsTup.new _ _⟩
def rTupP (K : PySem.W.Frag) : List V → Hp → VK → Prop := fun xs H Q => ∃ p ys, xs = [.ref p] ∧ SqL K H p ys ∧ ∀ l o, H l = none → PlO o → Q (.ref l) (upd H l (.frz o (.tup ys)))
/-- tuple(list), plain -/
theorem call_tupP (hK : X.K = K) : CallR X (.type "tuple") (rTupP K) := by
  subst hK
  intro pins s σ H xs us Q I r h
  obtain ⟨p, ys, rfl, hq, q⟩ := h
  obtain ⟨u, rfl, rx⟩ := vals1 r
  cases rx
  obtain ⟨its, r', pl, hz⟩ := I.list hq
  have hlen := r'.length
  refine call_tuple_list pl.isList (fun h' kp => ?_) (by simp only [List.size_toArray] <;> omega)
  have I1 : Inv X pins σ H { s with heap := h' } := I.kept (t' := s.toks) kp
  exact ⟨.ref h'.objs.size, _, laid_plain I1 r' hz, rfl, q _ _ (I1.hok.fresh (Nat.le_refl _)) ⟨rfl, rfl⟩⟩
def rCatP : R2 := fun x y H Q => ∃ a b xs ys, x = .ref a ∧ y = .ref b ∧ PlT H a xs ∧ PlT H b ys ∧ xs.length + ys.length ≤ 1000000 ∧
  ∀ p H', PlT H' p (xs ++ ys) → Same H H' → Q (.ref p) H'
theorem line_big : 1000000 ≤ sizeLine := by rw [sizeLine_eq]; decide
/-- t + u, plain -/
theorem op_catP : OpR X (binaryOp .Add) rCatP := by
  intro pins s σ H x y v u Q I rx ry h
  obtain ⟨a, b, xs, ys, rfl, rfl, ha, hb, hz, q⟩ := h
  cases rx
  cases ry
  have hsz := Nat.le_trans hz line_big
  obtain ⟨its, r1, p1, _⟩ := I.tuple (ha.sqt (K := X.K))
  obtain ⟨its2, r2, p2, _⟩ := I.tuple (hb.sqt (K := X.K))
  by_cases hx : xs = []
  · subst hx
    cases r1
    exact cat_tup0 p1 p2 ⟨.ref b, H, I, rfl, q b H (by simpa using hb) fun _ _ e => e⟩
  · refine HT.cat_tup p1 p2 (fun z => hx (r1.nil_iff.mp z)) (fun z => ?_) (fun z => ?_) (by rw [← r1.length, ← r2.length]; exact hsz)
    · have e := r2.nil_iff.mp z
      subst e
      exact ⟨.ref a, H, I, rfl, q a H (by simpa using ha) fun _ _ e => e⟩
    · have hf := I.hok.fresh (Nat.le_refl s.heap.objs.size)
      exact ⟨.ref s.heap.objs.size, _, laid_plain I (r1.append r2) (by rw [List.length_append]; exact hsz), rfl, q _ _ (.new ⟨rfl, rfl⟩) fun b o e => by rw [upd_ne (ne_of_none e hf)]; exact e⟩
def tTupP (t : TA) : TE := fun σ H Q => t σ H fun xs H1 => xs.length ≤ sizeLine ∧ ∀ p o, H1 p = none → PlO o → Q (.ref p) (upd H1 p (.frz o (.tup xs)))
/-- a written tuple, plain -/
theorem pe_tupP {es : List Expr} {t : TA} {pos : Pos} {x1} (h : PA X es t) : PE X (.Tuple es x1 pos) (tTupP t) := by
  refine ⟨fun pins s σ H Q I hq => ?_⟩
  refine wpAny_Tuple_spliced (thn (h.run pos pins s σ H _ I hq) fun us s1 ⟨xs, H1, I1, r, z, q⟩ => ⟨by rw [← r.length]; exact z, ?_⟩)
  exact ⟨.ref s1.heap.objs.size, _, laid_plain I1 r z, rfl, q _ _ (I1.hok.fresh (Nat.le_refl _)) ⟨rfl, rfl⟩⟩
def rSlP : V → Option Int → Option Int → Hp → VK → Prop := fun x lo hi H Q => ∃ a xs, x = .ref a ∧ PlT H a xs ∧ ∀ p H', PlT H' p (cutV xs lo hi) → Same H H' → Q (.ref p) H'
theorem cutV_whole {xs : List V} {lo hi : Option Int} (h : HT.sIx xs.length 0 lo = 0 ∧ HT.sIx xs.length xs.length hi = xs.length) : cutV xs lo hi = xs := by
  unfold cutV
  rw [h.1, h.2, List.drop_zero, Nat.sub_zero, List.take_length]
/-- t[lo:hi], plain -/
theorem sl_tupP : SlR X rSlP := by
  intro pins s σ H x v vl vu lo hi sl Q I rx hs pl pu h
  obtain ⟨a, xs, rfl, hx, q⟩ := h
  cases rx
  obtain ⟨its, r, ht, hz⟩ := I.tuple (hx.sqt (K := X.K))
  have hlen : its.toArray.size = xs.length := by rw [List.size_toArray]; exact r.length.symm
  refine ⟨"tuple", _, PyProof.Rows.slot_tuple_getitem.lookup, ht.typeIs, ?_⟩
  by_cases hw : HT.sIx xs.length 0 lo = 0 ∧ HT.sIx xs.length xs.length hi = xs.length
  · exact getItem_tuple_whole ht hs pl pu (by rw [hlen]; exact hw) ⟨.ref a, H, I, rfl, q a H (by rw [cutV_whole hw]; exact hx) fun _ _ e => e⟩
  · refine HT.getItem_tuple_cut ht hs pl pu (by rw [hlen]; exact hw) ?_ (by rw [hlen]; exact hz)
    rw [hlen]
    have hf := I.hok.fresh (Nat.le_refl s.heap.objs.size)
    exact ⟨.ref s.heap.objs.size, _, laid_plain I ((r.drop (HT.sIx xs.length 0 lo)).take (HT.sIx xs.length xs.length hi - HT.sIx xs.length 0 lo)) (Nat.le_trans (cutV_length xs lo hi) hz), rfl,
      q _ _ (.new ⟨rfl, rfl⟩) fun b o e => by rw [upd_ne (ne_of_none e hf)]; exact e⟩
/-! ### dict(tuple of pairs) -/
def rDictT (K : PySem.W.Frag) : List V → Hp → VK → Prop := fun xs H Q => ∃ (a : Addr) (ps : List Addr) (kvs : List (Key × V)), xs = [.ref a] ∧ PlT H a (ps.map V.ref) ∧ Paired (fun p kv => SqT K H p [kV kv.1, kv.2]) ps kvs ∧ ∀ p, H p = none → Q (.ref p) (upd H p (.dK (mergeK [] kvs)))
theorem pairs_of2 {pins : List (Addr × Obj)} {σ : L2.St} {H : Hp} {s : Shared} (I : Inv X pins σ H s) : ∀ {ps : List Addr} {kvs : List (Key × V)}, Paired (fun p kv => SqT X.K H p [kV kv.1, kv.2]) ps kvs →
    ∃ (prs : List (Key × Value)) (vps : List (Value × Value)), KV kvs prs ∧ prs.length = ps.length ∧ vps.length = ps.length ∧ ∀ (j : Nat) (q : Value × Value), vps[j]? = some q → ∃ (b : Addr) (k : Key), ps[j]? = some b ∧ prs[j]? = some (k, q.2) ∧ IsTup s.heap b #[q.1, q.2] ∧ keyIs k q.1 = true
  | _, _, .nil => ⟨[], [], .nil, rfl, rfl, fun j q e => by simp at e⟩
  | _, _, .cons (a := p) (b := kv) h t => by
    obtain ⟨prs, vps, r, hl, hv, hp⟩ := pairs_of2 I t
    obtain ⟨its, rv, ht, _⟩ := I.tuple h
    obtain ⟨u, y, ei, ru, ry⟩ := vals2 rv
    subst ei
    refine ⟨(kv.1, y) :: prs, (u, y) :: vps, .cons ⟨rfl, ry⟩ r, by rw [List.length_cons, List.length_cons, hl], by rw [List.length_cons, List.length_cons, hv], fun j q e => ?_⟩
    cases j with
    | zero =>
      have e' : (u, y) = q := Option.some.inj e
      subst e'
      exact ⟨p, kv.1, rfl, rfl, ht, kV_is (P := X.prog) (w := X.w) ru⟩
    | succ j =>
      obtain ⟨b, k', e1, e2, e3, e4⟩ := hp j q (by simpa using e)
      exact ⟨b, k', by simpa using e1, by simpa using e2, e3, e4⟩
theorem call_dictT (hK : X.K = K) (hcalm : X.calm = true) : CallR X (.type "dict") (rDictT K) := by
  subst hK
  intro pins s σ H xs us Q I r q
  obtain ⟨a, ps, kvs, rfl, ⟨o, ha, hc, hd⟩, hp, q⟩ := q
  obtain ⟨u, rfl, rx⟩ := vals1 r
  cases rx
  obtain ⟨ho, hz, its, rv, tp⟩ := (show ObjOk X.prog X.w H s.heap a (.frz o (.tup (ps.map V.ref))) from I.hok a _ ha)
  have ei := refs_at rv
  subst ei
  rw [List.length_map] at hz
  obtain ⟨prs, vps, rel, hl, hv, hpr⟩ := pairs_of2 I hp
  obtain ⟨o', ho', _, n, hdat⟩ := tp
  rw [ho] at ho'
  cases ho'
  refine PySem.call_dict_pairs (knd := mixKind X.prog X.w) (kvs := prs) (PairArg.tuple a (ps.map Value.ref).toArray (fun j => (ps[j]?).getD 0) vps) (I.ok.hd hcalm)
    ⟨⟨o, n, ho, hc, hd, hdat⟩, by simp [hv], fun j k v e => ?_⟩ ⟨by rw [hl, hv], fun i key v e => ?_⟩ (by rw [hv]; exact hz) fun h' tk hd' hk => ?_
  · obtain ⟨b, k', e1, e2, e3, e4⟩ := hpr j _ e
    refine ⟨by simp [e1], .inl ?_⟩
    simp only [e1, Option.getD_some]
    exact e3
  · obtain ⟨b, k', e1, e2, e3, e4⟩ := hpr i _ e
    exact ⟨k', e2, e4⟩
  · have hm : (s.heap.objs.size == sysModules) = false := beq_eq_false_iff_ne.mpr (Nat.ne_of_gt I.big)
    have hlen : (mergeK [] kvs).length ≤ sizeLine := by
      refine Nat.le_trans (length_mergeK kvs []) ?_
      rw [List.length_nil, Nat.zero_add, rel.length, hl]
      exact hz
    exact ⟨.ref s.heap.objs.size, upd H s.heap.objs.size (.dK (mergeK [] kvs)), I.laid (t' := tk) (fun b o e => hk b o (by simp) e) (Nat.le_refl _) (show ObjOk X.prog X.w _ _ _ (.dK (mergeK [] kvs)) from ⟨hlen, hm, merged [] prs, KV.merge rel .nil, hd'⟩), rfl, q _ (I.hok.fresh (Nat.le_refl _))⟩
end
end En

set_option Elab.async false
set_option linter.all false
set_option maxRecDepth 100000
set_option maxHeartbeats 2000000
/-! pairs of stores in the heap; texts of stores, read again -/
namespace Sx
open PySem PySem.Spec PyProof.Rows L2 Rd Dt Pk Ln En TL
def L1 (c : Nat) : Str := ⟨#[c]⟩
def nk (n : Nat × Nat) : Key × V := (.inr (L1 n.1), .int n.2)
def ck (c : Nat × Nat) : Key × V := (.inl c.1, .int c.2)
/-! ### pairs in the heap -/
section
variable {K : PySem.W.Frag} {H H' : Hp}
inductive Prs (K : PySem.W.Frag) (H : Hp) : List V → List (Key × V) → Prop
  | nil : Prs K H [] []
  | cons {p : Addr} {kv : Key × V} {xs : List V} {kvs : List (Key × V)} : SqT K H p [kV kv.1, kv.2] → Prs K H xs kvs → Prs K H (.ref p :: xs) (kv :: kvs)
theorem sqt_up (s : Same H H') {a : Addr} {xs : List V} (h : SqT K H a xs) : SqT K H' a xs := by
  rcases h with (h | ⟨o, h⟩) | h
  · exact .inl (.inl (s _ _ h))
  · exact .inl (.inr ⟨o, s _ _ h⟩)
  · exact .inr h
theorem sqt_but {u : Addr} (s : But u H H') {a : Addr} (hn : a ≠ u) {xs : List V} (h : SqT K H a xs) : SqT K H' a xs := by
  rcases h with (h | ⟨o, h⟩) | h
  · exact .inl (.inl (s _ _ hn h))
  · exact .inl (.inr ⟨o, s _ _ hn h⟩)
  · exact .inr h
theorem Prs.keep (s : ∀ a xs, SqT K H a xs → SqT K H' a xs) : ∀ {xs : List V} {kvs : List (Key × V)}, Prs K H xs kvs → Prs K H' xs kvs
  | _, _, .nil => .nil
  | _, _, .cons e h => .cons (s _ _ e) (h.keep s)
theorem Prs.up (s : Same H H') {xs : List V} {kvs : List (Key × V)} (h : Prs K H xs kvs) : Prs K H' xs kvs := h.keep fun _ _ e => sqt_up s e
theorem Prs.len : ∀ {xs : List V} {kvs : List (Key × V)}, Prs K H xs kvs → xs.length = kvs.length
  | _, _, .nil => rfl
  | _, _, .cons _ h => congrArg (· + 1) h.len
theorem Prs.atV : ∀ {xs : List V} {kvs : List (Key × V)}, Prs K H xs kvs → ∀ {i : Nat} {v : V}, xs[i]? = some v → ∃ (kv : Key × V) (b : Addr), kvs[i]? = some kv ∧ v = .ref b ∧ SqT K H b [kV kv.1, kv.2]
  | _, _, .nil, i, v, h => by cases i <;> cases h
  | _, _, .cons e h, i, v, hv => by
    cases i with
    | zero => cases hv; exact ⟨_, _, rfl, rfl, e⟩
    | succ i => exact h.atV hv
theorem Prs.append : ∀ {xs ys : List V} {ws vs : List (Key × V)}, Prs K H xs ws → Prs K H ys vs → Prs K H (xs ++ ys) (ws ++ vs)
  | _, _, _, _, .nil, g => g
  | _, _, _, _, .cons e h, g => .cons e (h.append g)
theorem Prs.take : ∀ {xs : List V} {ws : List (Key × V)}, Prs K H xs ws → ∀ n, Prs K H (xs.take n) (ws.take n)
  | _, _, .nil, n => by cases n <;> exact .nil
  | _, _, .cons e h, n => by
    cases n with
    | zero => exact .nil
    | succ n => exact .cons e (h.take n)
theorem Prs.drop : ∀ {xs : List V} {ws : List (Key × V)}, Prs K H xs ws → ∀ n, Prs K H (xs.drop n) (ws.drop n)
  | _, _, .nil, n => by cases n <;> exact .nil
  | _, _, .cons e h, n => by
    cases n with
    | zero => exact .cons e h
    | succ n => exact h.drop n
theorem Prs.refs : ∀ {xs : List V} {kvs : List (Key × V)}, Prs K H xs kvs → ∃ ps : List Addr, xs = ps.map V.ref ∧ Paired (fun p kv => SqT K H p [kV kv.1, kv.2]) ps kvs
  | _, _, .nil => ⟨[], rfl, .nil⟩
  | _, _, .cons (p := p) e h => by
    obtain ⟨ps, rfl, q⟩ := h.refs
    exact ⟨p :: ps, rfl, .cons e q⟩
/-- a plain tuple of pairs -/
def PrsAt (K : PySem.W.Frag) (H : Hp) (a : Addr) (kvs : List (Key × V)) : Prop := ∃ xs, PlT H a xs ∧ Prs K H xs kvs
theorem PlT.up (s : Same H H') {a : Addr} {xs : List V} (h : PlT H a xs) : PlT H' a xs := h.keep fun o e => s _ _ e
theorem PrsAt.up (s : Same H H') {a : Addr} {kvs : List (Key × V)} (h : PrsAt K H a kvs) : PrsAt K H' a kvs := by
  obtain ⟨xs, h1, h2⟩ := h
  exact ⟨xs, PlT.up s h1, h2.up s⟩
theorem Prs.but {u : Addr} (s : But u H H') {o : HO} (hu : H u = some o) (ho : ∀ xs, o ≠ .tup xs ∧ ∀ ob, o ≠ .frz ob (.tup xs)) {xs : List V} {kvs : List (Key × V)} (h : Prs K H xs kvs) : Prs K H' xs kvs :=
  h.keep fun a ys e => by
    rcases e with (e | ⟨ob, e⟩) | e
    · exact .inl (.inl (s _ _ (ne_of e hu fun z => (ho ys).1 z.symm) e))
    · exact .inl (.inr ⟨ob, s _ _ (ne_of e hu fun z => (ho ys).2 ob z.symm) e⟩)
    · exact .inr e
theorem PrsAt.but {u : Addr} (s : But u H H') {o : HO} (hu : H u = some o) (ho : ∀ xs, o ≠ .tup xs ∧ ∀ ob, o ≠ .frz ob (.tup xs)) {a : Addr} {kvs : List (Key × V)} (h : PrsAt K H a kvs) : PrsAt K H' a kvs := by
  obtain ⟨xs, ⟨ob, h1, h3⟩, h2⟩ := h
  exact ⟨xs, ⟨ob, s _ _ (ne_of h1 hu fun z => (ho xs).2 ob z.symm) h1, h3⟩, h2.but s hu ho⟩
/-! ### as data -/
def kD : Key → PyData
  | .inl i => .int i
  | .inr s => .str s
def vD : V → PyData
  | .int i => .int i
  | _ => .none
def pD (kv : Key × V) : PyData := .tuple [kD kv.1, vD kv.2]
def IntV (kvs : List (Key × V)) : Prop := ∀ kv ∈ kvs, ∃ i, kv.2 = .int i
theorem Prs.dp : ∀ {xs : List V} {kvs : List (Key × V)}, Prs K H xs kvs → IntV kvs → DpAll K H xs (kvs.map pD)
  | _, _, .nil, _ => .nil
  | _, _, .cons (kv := kv) e h, z => by
    refine .cons (.tup e (.cons ?_ (.cons ?_ .nil))) (h.dp fun x hx => z x (List.mem_cons_of_mem _ hx))
    · cases kv.1 with
      | inl i => exact .int i
      | inr s => exact .str s
    · obtain ⟨i, ei⟩ := z kv (List.mem_cons_self ..)
      rw [ei]
      exact .int i
theorem PrsAt.dp {a : Addr} {kvs : List (Key × V)} (h : PrsAt K H a kvs) (z : IntV kvs) : Dp K H (.ref a) (.tuple (kvs.map pD)) := by
  obtain ⟨xs, h1, h2⟩ := h
  exact .tup h1.sqt (h2.dp z)
theorem intV_n (ns : List (Nat × Nat)) : IntV (ns.map nk) := fun kv hk => by
  obtain ⟨n, _, rfl⟩ := List.mem_map.mp hk
  exact ⟨_, rfl⟩
theorem intV_c (ns : List (Nat × Nat)) : IntV (ns.map ck) := fun kv hk => by
  obtain ⟨n, _, rfl⟩ := List.mem_map.mp hk
  exact ⟨_, rfl⟩
end
/-! ### dicts of pairs -/
theorem putK_new {κ : Type} [DecidableEq κ] {kvs : List (κ × V)} {k : κ} {v : V} (h : ∀ x ∈ kvs, x.1 ≠ k) : putK kvs k v = kvs ++ [(k, v)] := by
  unfold putK
  rw [if_neg]
  intro z
  obtain ⟨x, hx, e⟩ := List.any_eq_true.mp z
  exact h x hx (of_decide_eq_true e)
theorem merge_new : ∀ (kvs acc : List (Key × V)), (∀ x ∈ acc, ∀ y ∈ kvs, x.1 ≠ y.1) → kvs.Pairwise (fun x y => x.1 ≠ y.1) → mergeK acc kvs = acc ++ kvs
  | [], acc, _, _ => by rw [List.append_nil]; rfl
  | kv :: kvs, acc, h, p => by
    rw [List.pairwise_cons] at p
    show mergeK (putK acc kv.1 kv.2) kvs = _
    rw [putK_new (fun x hx => h x hx kv (List.mem_cons_self ..)), merge_new kvs _ (fun x hx y hy => ?_) p.2, List.append_assoc]
    · rfl
    · rcases List.mem_append.mp hx with hx | hx
      · exact h x hx y (List.mem_cons_of_mem _ hy)
      · rw [List.mem_singleton.mp hx]
        exact p.1 y hy
def Asc (ns : List (Nat × Nat)) : Prop := ns.Pairwise fun x y => x.1 < y.1
theorem L1_inj {c d : Nat} (h : L1 c = L1 d) : c = d := by
  unfold L1 at h
  injection h with h
  have := congrArg Array.toList h
  simpa using this
theorem merge_n {ns : List (Nat × Nat)} (h : Asc ns) : mergeK [] (ns.map nk) = ns.map nk :=
  merge_new _ [] (fun _ hx => nomatch hx) (List.pairwise_map.mpr (h.imp fun {a b} q z => by
    have : (Sum.inr (L1 a.1) : Key) = .inr (L1 b.1) := z
    injection this with this
    have := L1_inj this
    omega))
theorem merge_c {cs : List (Nat × Nat)} (h : Asc cs) : mergeK [] (cs.map ck) = cs.map ck :=
  merge_new _ [] (fun _ hx => nomatch hx) (List.pairwise_map.mpr (h.imp fun {a b} q z => by
    have : (Sum.inl (a.1 : Int) : Key) = .inl (b.1 : Int) := z
    injection this with this
    omega))
/-- what is told behind a first part -/
def look (ns : List (Nat × Nat)) (k : Nat) : Option Nat := (ns.find? fun n => decide (n.1 = k)).map (·.2)
theorem val_n (ns : List (Nat × Nat)) (k : Nat) : valV (ns.map nk) (.inr (L1 k) : Key) = (look ns k).map fun v : Nat => V.int v := by
  unfold valV look
  rw [List.find?_map, Option.map_map, Option.map_map]
  have : ((fun kv : Key × V => decide (kv.1 = .inr (L1 k))) ∘ nk) = fun n => decide (n.1 = k) := by
    funext n
    show decide ((Sum.inr (L1 n.1) : Key) = .inr (L1 k)) = _
    rw [decide_eq_decide]
    exact ⟨fun z => by injection z with z; exact L1_inj z, fun z => by rw [z]⟩
  rw [this]
  rfl
theorem val_c (ns : List (Nat × Nat)) (k : Int) : valV (ns.map ck) (.inl k : Key) = (if 0 ≤ k then look ns k.toNat else none).map fun v : Nat => V.int v := by
  unfold valV look
  rw [List.find?_map, Option.map_map]
  by_cases h : 0 ≤ k
  · rw [if_pos h, Option.map_map]
    have : ((fun kv : Key × V => decide (kv.1 = .inl k)) ∘ ck) = fun n => decide (n.1 = k.toNat) := by
      funext n
      show decide ((Sum.inl (n.1 : Int) : Key) = .inl k) = _
      rw [decide_eq_decide]
      exact ⟨fun z => by injection z with z; omega, fun z => by rw [z]; congr 1; omega⟩
    rw [this]
    rfl
  · rw [if_neg h]
    have : ((fun kv : Key × V => decide (kv.1 = .inl k)) ∘ ck) = fun n => false := by
      funext n
      show decide ((Sum.inl (n.1 : Int) : Key) = .inl k) = _
      rw [decide_eq_false]
      intro z
      injection z with z
      omega
    rw [this]
    simp
/-! ### texts -/
def nameW (n : Nat × Nat) : Str := L1 n.1 ++ "=" ++ numT n.2
def cellW (c : Nat × Nat) : Str := numT c.1 ++ ">" ++ numT c.2
def namesT (ns : List (Nat × Nat)) : Str := Txt.join " " (ns.map nameW)
def cellsT (cs : List (Nat × Nat)) : Str := if cs = [] then "none" else Txt.join " " (cs.map cellW)
def storeT (ns cs : List (Nat × Nat)) : Str := namesT ns ++ " | " ++ cellsT cs
def lettT (ns : List (Nat × Nat)) : Str := Txt.join "" (ns.map fun n => L1 n.1)
def NmOk (ns : List (Nat × Nat)) : Prop := 1 ≤ ns.length ∧ ns.length ≤ 4 ∧ (∀ n ∈ ns, 97 ≤ n.1 ∧ n.1 ≤ 122 ∧ n.2 ≤ 999) ∧ Asc ns
def ClOk (cs : List (Nat × Nat)) : Prop := cs.length ≤ 500 ∧ (∀ c ∈ cs, 1 ≤ c.1 ∧ c.1 ≤ 999 ∧ c.2 ≤ 999) ∧ Asc cs
theorem pre_second {a b : Nat} {S l : List Nat} (h : l[1]? ≠ some b) : pre (a :: b :: S) l = false := by
  unfold pre
  rw [beq_eq_false_iff_ne]
  intro z
  apply h
  have := congrArg (fun m : List Nat => m[1]?) z
  simp only [List.getElem?_cons_succ, List.getElem?_cons_zero] at this
  rw [List.getElem?_take] at this
  split at this
  · exact this
  · cases this
theorem tl_bar : tl " | " = [32, 124, 32] := by decide +kernel
theorem tl_eq : tl "=" = 61 :: [] := by decide +kernel
theorem tl_gt : tl ">" = 62 :: [] := by decide +kernel
theorem tl_L1 (c : Nat) : tl (L1 c) = [c] := rfl
theorem split_bar {a b : Str} (ha : 124 ∉ tl a) (hb : 124 ∉ tl b) : Txt.split (a ++ " | " ++ b) " | " = [a, b] := by
  refine map_tl_inj ?_
  rw [split_spl _ _ (by rw [tl_bar]; simp) (kind_ok (by decide +kernel)), tl_append, tl_append, tl_bar, List.append_assoc]
  have one : ∀ (p : List Nat) (i : Nat) (r : List Nat), 124 ∉ p → i < p.length → ((p ++ (32 :: r)).drop i)[1]? ≠ some 124 := fun p i r hp hi z => by
    rw [List.getElem?_drop] at z
    by_cases c : i + 1 < p.length
    · rw [List.getElem?_append_left c] at z
      exact hp (List.mem_of_getElem? z)
    · rw [List.getElem?_append_right (by omega), show i + 1 - p.length = 0 by omega] at z
      simp at z
  rw [spl_part (by simp) (fun i hi => pre_second (one _ i _ ha hi)), spl_last (fun i hi => pre_second fun z => hb ?_)]
  · simp
  · rw [List.getElem?_drop] at z
    exact List.mem_of_getElem? z
theorem num_no {n s : Nat} (h : n ≤ 999) (hs : s < 48 ∨ 57 < s) : s ∉ tl (numT n) := fun z => by
  have := (numT_at (show n ≤ 1000 by omega)).2.2.1 s z
  omega
theorem name_split {n : Nat × Nat} (h : 97 ≤ n.1) (h2 : n.2 ≤ 999) : Txt.split (nameW n) "=" = [L1 n.1, numT n.2] := by
  have e : nameW n = Txt.join "=" [L1 n.1, numT n.2] := by rw [join_eq]; rfl
  rw [e]
  refine split_join tl_eq (by decide +kernel) (by simp) fun p hp => ?_
  rcases List.mem_cons.mp hp with rfl | hp
  · rw [tl_L1]; simp; omega
  · rw [List.mem_singleton.mp hp]; exact num_no h2 (by omega)
theorem cell_split {n : Nat × Nat} (h : n.1 ≤ 999) (h2 : n.2 ≤ 999) : Txt.split (cellW n) ">" = [numT n.1, numT n.2] := by
  have e : cellW n = Txt.join ">" [numT n.1, numT n.2] := by rw [join_eq]; rfl
  rw [e]
  refine split_join tl_gt (by decide +kernel) (by simp) fun p hp => ?_
  rcases List.mem_cons.mp hp with rfl | hp
  · exact num_no h (by omega)
  · rw [List.mem_singleton.mp hp]; exact num_no h2 (by omega)
theorem nameW_no {n : Nat × Nat} {s : Nat} (h : 97 ≤ n.1 ∧ n.1 ≤ 122) (h2 : n.2 ≤ 999) (hs : s < 48 ∨ 122 < s) : s ∉ tl (nameW n) := by
  unfold nameW
  rw [tl_append, tl_append, tl_eq, tl_L1]
  intro z
  rcases List.mem_append.mp z with z | z
  · simp at z; omega
  · exact num_no h2 (by omega) z
theorem cellW_no {n : Nat × Nat} {s : Nat} (h : n.1 ≤ 999) (h2 : n.2 ≤ 999) (hs : s < 48 ∨ 122 < s) : s ∉ tl (cellW n) := by
  unfold cellW
  rw [tl_append, tl_append, tl_gt]
  intro z
  rcases List.mem_append.mp z with z | z
  · rcases List.mem_append.mp z with z | z
    · exact num_no h (by omega) z
    · simp at z; omega
  · exact num_no h2 (by omega) z
theorem joinL_mem {S : List Nat} {s : Nat} : ∀ {ps : List (List Nat)}, s ∈ joinL S ps → s ∈ S ∨ ∃ p ∈ ps, s ∈ p
  | [], h => nomatch h
  | [p], h => .inr ⟨p, List.mem_singleton.mpr rfl, h⟩
  | p :: q :: r, h => by
    rcases List.mem_append.mp (show s ∈ p ++ (S ++ joinL S (q :: r)) from h) with h | h
    · exact .inr ⟨p, List.mem_cons_self .., h⟩
    · rcases List.mem_append.mp h with h | h
      · exact .inl h
      · rcases joinL_mem h with h | ⟨x, hx, hs⟩
        · exact .inl h
        · exact .inr ⟨x, List.mem_cons_of_mem _ hx, hs⟩
theorem join_no {y : Str} {ws : List Str} {s : Nat} (hy : s ∉ tl y) (h : ∀ w ∈ ws, s ∉ tl w) : s ∉ tl (Txt.join y ws) := by
  rw [join_eq, tl_join]
  intro z
  rcases joinL_mem z with z | ⟨p, hp, hs⟩
  · exact hy z
  · obtain ⟨w, hw, rfl⟩ := List.mem_map.mp hp
    exact h w hw hs
theorem names_no {ns : List (Nat × Nat)} (h : NmOk ns) : 124 ∉ tl (namesT ns) := join_no (by decide +kernel) fun w hw => by
  obtain ⟨n, hn, rfl⟩ := List.mem_map.mp hw
  have := h.2.2.1 n hn
  exact nameW_no ⟨this.1, this.2.1⟩ this.2.2 (by omega)
theorem cells_no {cs : List (Nat × Nat)} (h : ClOk cs) : 124 ∉ tl (cellsT cs) := by
  unfold cellsT
  split
  · decide +kernel
  · exact join_no (by decide +kernel) fun w hw => by
      obtain ⟨n, hn, rfl⟩ := List.mem_map.mp hw
      have := h.2.1 n hn
      exact cellW_no this.2.1 this.2.2 (by omega)
theorem store_split {ns cs : List (Nat × Nat)} (h : NmOk ns) (g : ClOk cs) : Txt.split (storeT ns cs) " | " = [namesT ns, cellsT cs] := split_bar (names_no h) (cells_no g)
theorem names_split {ns : List (Nat × Nat)} (h : NmOk ns) : Txt.split (namesT ns) " " = ns.map nameW := by
  refine split_join tl_spc (by decide +kernel) (fun z => ?_) fun p hp => ?_
  · have := h.1
    have e := List.map_eq_nil_iff.mp z
    rw [e] at this
    simp at this
  · obtain ⟨n, hn, rfl⟩ := List.mem_map.mp hp
    have := h.2.2.1 n hn
    exact nameW_no ⟨this.1, this.2.1⟩ this.2.2 (by omega)
theorem cells_split {cs : List (Nat × Nat)} (hc : cs ≠ []) (h : ClOk cs) : Txt.split (cellsT cs) " " = cs.map cellW := by
  unfold cellsT
  rw [if_neg hc]
  refine split_join tl_spc (by decide +kernel) (by simpa using hc) fun p hp => ?_
  obtain ⟨n, hn, rfl⟩ := List.mem_map.mp hp
  have := h.2.1 n hn
  exact cellW_no this.2.1 this.2.2 (by omega)
theorem cells_none {cs : List (Nat × Nat)} (hc : cs ≠ []) (h : ClOk cs) : cellsT cs ≠ "none" := fun z => by
  have e := cells_split hc h
  rw [z] at e
  have e2 : Txt.split (Txt.join " " [Str.ofString "none"]) " " = [Str.ofString "none"] := split_join tl_spc (by decide +kernel) (by simp) (fun p hp => by rw [List.mem_singleton.mp hp]; decide +kernel)
  have e3 : Txt.join " " [Str.ofString "none"] = "none" := by rw [join_eq]; rfl
  rw [e3] at e2
  rw [e2] at e
  cases cs with
  | nil => exact hc rfl
  | cons c r =>
    have e4 : Str.ofString "none" = cellW c := by
      rw [List.map_cons] at e
      injection e
    have e5 : 62 ∈ tl (cellW c) := by
      unfold cellW
      rw [tl_append, tl_append, tl_gt]
      simp
    rw [← e4] at e5
    exact absurd e5 (by decide +kernel)
theorem cells_empty {cs : List (Nat × Nat)} (hc : cs ≠ []) (h : ClOk cs) : Txt.join " " (cs.map cellW) ≠ "" := fun z => by
  have e := cells_split hc h
  unfold cellsT at e
  rw [if_neg hc, z] at e
  have e2 : Txt.split (Txt.join " " [Str.ofString ""]) " " = [Str.ofString ""] := split_join tl_spc (by decide +kernel) (by simp) (fun p hp => by rw [List.mem_singleton.mp hp]; decide +kernel)
  have e3 : Txt.join " " [Str.ofString ""] = "" := by rw [join_eq]; rfl
  rw [e3] at e2
  rw [e2] at e
  cases cs with
  | nil => exact hc rfl
  | cons c r =>
    have e4 : Str.ofString "" = cellW c := by
      rw [List.map_cons] at e
      injection e
    have e5 : 62 ∈ tl (cellW c) := by
      unfold cellW
      rw [tl_append, tl_append, tl_gt]
      simp
    rw [← e4] at e5
    exact absurd e5 (by decide +kernel)
/-! ### lengths and signs -/
theorem nlen {n : Nat} (h : n ≤ 999) : (numT n).length ≤ 4 := by
  rw [(numT_at (show n ≤ 1000 by omega)).1]
  exact (nl_pos n).2
theorem nameW_len {n : Nat × Nat} (h : n.2 ≤ 999) : (nameW n).length ≤ 6 := by
  unfold nameW
  rw [Str.length_append, Str.length_append]
  have := nlen h
  have e : ("=" : Str).length = 1 := by decide
  have e1 : (L1 n.1).length = 1 := rfl
  omega
theorem cellW_len {n : Nat × Nat} (h1 : n.1 ≤ 999) (h : n.2 ≤ 999) : (cellW n).length ≤ 9 := by
  unfold cellW
  rw [Str.length_append, Str.length_append]
  have := nlen h
  have := nlen h1
  have e : (">" : Str).length = 1 := by decide
  omega
theorem joinL_len {S : List Nat} {m : Nat} : ∀ {ps : List (List Nat)}, (∀ p ∈ ps, p.length ≤ m) → (joinL S ps).length ≤ ps.length * (m + S.length)
  | [], _ => Nat.zero_le _
  | [p], h => by
    have := h p (List.mem_singleton.mpr rfl)
    show p.length ≤ 1 * (m + S.length)
    omega
  | p :: q :: r, h => by
    have h1 := h p (List.mem_cons_self ..)
    have h2 := joinL_len (S := S) (ps := q :: r) fun x hx => h x (List.mem_cons_of_mem _ hx)
    show (p ++ (S ++ joinL S (q :: r))).length ≤ ((q :: r).length + 1) * (m + S.length)
    rw [List.length_append, List.length_append, Nat.add_mul]
    omega
theorem join_len {y : Str} {ws : List Str} {m : Nat} (h : ∀ w ∈ ws, w.length ≤ m) : (Txt.join y ws).length ≤ ws.length * (m + y.length) := by
  rw [join_eq]
  have e : ∀ z : Str, z.length = (tl z).length := fun z => by unfold tl; rw [Array.length_toList]; rfl
  rw [e, tl_join, e y]
  have := joinL_len (S := tl y) (m := m) (ps := ws.map tl) fun p hp => by
    obtain ⟨w, hw, rfl⟩ := List.mem_map.mp hp
    rw [← e]
    exact h w hw
  rwa [List.length_map] at this
theorem namesT_len {ns : List (Nat × Nat)} (h : NmOk ns) : (namesT ns).length ≤ 28 := by
  have := join_len (y := " ") (ws := ns.map nameW) (m := 6) fun w hw => by
    obtain ⟨n, hn, rfl⟩ := List.mem_map.mp hw
    exact nameW_len (h.2.2.1 n hn).2.2
  rw [List.length_map] at this
  have e : (" " : Str).length = 1 := by decide
  rw [e] at this
  have := h.2.1
  unfold namesT
  omega
theorem cellsT_len {cs : List (Nat × Nat)} (h : ClOk cs) : (cellsT cs).length ≤ 5004 ∧ (Txt.join " " (cs.map cellW)).length ≤ 5000 := by
  have := join_len (y := " ") (ws := cs.map cellW) (m := 9) fun w hw => by
    obtain ⟨n, hn, rfl⟩ := List.mem_map.mp hw
    exact cellW_len (h.2.1 n hn).2.1 (h.2.1 n hn).2.2
  rw [List.length_map] at this
  have e : (" " : Str).length = 1 := by decide
  rw [e] at this
  have := h.1
  refine ⟨?_, by omega⟩
  unfold cellsT
  split
  · have : ("none" : Str).length = 4 := by decide
    omega
  · omega
theorem storeT_len {ns cs : List (Nat × Nat)} (h : NmOk ns) (g : ClOk cs) : (storeT ns cs).length ≤ 5040 := by
  unfold storeT
  rw [Str.length_append, Str.length_append]
  have := namesT_len h
  have := (cellsT_len g).1
  have e : (" | " : Str).length = 3 := by decide
  omega
theorem lettT_len {ns : List (Nat × Nat)} (h : NmOk ns) : (lettT ns).length ≤ 4 := by
  have := join_len (y := "") (ws := ns.map fun n => L1 n.1) (m := 1) fun w hw => by
    obtain ⟨n, hn, rfl⟩ := List.mem_map.mp hw
    exact Nat.le_refl _
  rw [List.length_map] at this
  have e : ("" : Str).length = 0 := by decide
  rw [e] at this
  have := h.2.1
  unfold lettT
  omega
theorem namesT_ch {ns : List (Nat × Nat)} (h : NmOk ns) : ∀ c ∈ tl (namesT ns), c < 0x110000 := fun c hc => by
  refine Decidable.by_contra fun z => ?_
  refine join_no ?_ (fun w hw => ?_) hc
  · rw [show tl " " = [32] from by decide +kernel]; simp; omega
  · obtain ⟨n, hn, rfl⟩ := List.mem_map.mp hw
    have := h.2.2.1 n hn
    exact nameW_no ⟨this.1, this.2.1⟩ this.2.2 (by omega)
theorem cellsT_ch {cs : List (Nat × Nat)} (h : ClOk cs) : ∀ c ∈ tl (cellsT cs), c < 0x110000 := fun c hc => by
  refine Decidable.by_contra fun z => ?_
  unfold cellsT at hc
  split at hc
  · rw [show tl "none" = [110, 111, 110, 101] from by decide +kernel] at hc
    simp at hc
    omega
  · refine join_no ?_ (fun w hw => ?_) hc
    · rw [show tl " " = [32] from by decide +kernel]; simp; omega
    · obtain ⟨n, hn, rfl⟩ := List.mem_map.mp hw
      have := h.2.1 n hn
      exact cellW_no this.2.1 this.2.2 (by omega)
theorem storeT_ch {ns cs : List (Nat × Nat)} (h : NmOk ns) (g : ClOk cs) : ∀ c ∈ tl (storeT ns cs), c < 0x110000 := fun c hc => by
  unfold storeT at hc
  rw [tl_append, tl_append, tl_bar] at hc
  rcases List.mem_append.mp hc with hc | hc
  · rcases List.mem_append.mp hc with hc | hc
    · exact namesT_ch h c hc
    · simp at hc; omega
  · exact cellsT_ch g c hc
theorem lettT_ch {ns : List (Nat × Nat)} (h : NmOk ns) : ∀ c ∈ tl (lettT ns), c < 0x110000 := fun c hc => by
  refine Decidable.by_contra fun z => ?_
  refine join_no ?_ (fun w hw => ?_) hc
  · rw [show tl "" = [] from by decide +kernel]; simp
  · obtain ⟨n, hn, rfl⟩ := List.mem_map.mp hw
    have := h.2.2.1 n hn
    rw [tl_L1]; simp; omega
/-! ### isinstance of a tuple -/
def rIsT (K : PySem.W.Frag) : List V → Hp → VK → Prop := fun vs H Q => ∃ a xs, vs = [.ref a, .ty "tuple"] ∧ SqT K H a xs ∧ Q (.bl true) H
theorem rIsT_ {K : PySem.W.Frag} {vs : List V} {H : Hp} {Q : VK} : rIsT K vs H Q = ∃ a xs, vs = [.ref a, .ty "tuple"] ∧ SqT K H a xs ∧ Q (.bl true) H := rfl
theorem call_isT {X : Cx} {K : PySem.W.Frag} (hK : X.K = K) : CallR X (.builtin "isinstance") (rIsT K) := by
  subst hK
  intro pins s σ H vs us Q I r h
  obtain ⟨a, xs, rfl, ha, q⟩ := h
  cases r with
  | cons r1 rr =>
    cases rr with
    | cons r2 rr =>
      cases rr
      cases r1
      cases r2
      obtain ⟨its, _, ⟨o, h1, h2, _⟩, _⟩ := I.tuple ha
      exact PySem.W.kia_one (b := true) PySem.W.kitx_tuple I.kIn ⟨o, h1, h2⟩ (by rfl) (fun z => nomatch z) fun tk => ⟨.bl true, H, I.tok tk, rfl, q⟩
end Sx

set_option Elab.async false
set_option linter.all false
set_option maxRecDepth 100000
set_option maxHeartbeats 2000000
/-! readings; o.m(k = v) -/
namespace Sy
open PySem PySem.Spec PyProof.Rows L2 Rd Dt Pk Ln En Sx
section
variable {K : PySem.W.Frag} {σ : L2.St} {H : Hp} {Q : VK} {td ty tv te : TE} {t : TA}
theorem tTupP_ : tTupP t σ H Q = t σ H fun xs H1 => xs.length ≤ sizeLine ∧ ∀ p o, H1 p = none → PlO o → Q (.ref p) (upd H1 p (.frz o (.tup xs))) := rfl
theorem rTupP_ {xs : List V} : rTupP K xs H Q = ∃ p ys, xs = [.ref p] ∧ SqL K H p ys ∧ ∀ l o, H l = none → PlO o → Q (.ref l) (upd H l (.frz o (.tup ys))) := rfl
theorem rCatP_ {x y : V} : rCatP x y H Q = ∃ a b xs ys, x = .ref a ∧ y = .ref b ∧ PlT H a xs ∧ PlT H b ys ∧ xs.length + ys.length ≤ 1000000 ∧ ∀ p H', PlT H' p (xs ++ ys) → Same H H' → Q (.ref p) H' := rfl
theorem rSlP_ {x : V} {lo hi : Option Int} : rSlP x lo hi H Q = ∃ a xs, x = .ref a ∧ PlT H a xs ∧ ∀ p H', PlT H' p (cutV xs lo hi) → Same H H' → Q (.ref p) H' := rfl
theorem rDictT_ {xs : List V} : rDictT K xs H Q = ∃ (a : Addr) (ps : List Addr) (kvs : List (Key × V)), xs = [.ref a] ∧ PlT H a (ps.map V.ref) ∧ Paired (fun p kv => SqT K H p [kV kv.1, kv.2]) ps kvs ∧ ∀ p, H p = none → Q (.ref p) (upd H p (.dK (mergeK [] kvs))) := rfl
theorem tDGet_ : tDGet td ty σ H Q = td σ H fun x H1 => ty σ H1 fun y H2 => ∃ a v, x = .ref a ∧ DGet H2 a y (some v) ∧ Q v H2 := rfl
theorem tDGet1_ : tDGet1 td ty σ H Q = td σ H fun x H1 => ∃ a, x = .ref a ∧ IsD H1 a ∧ ty σ H1 fun y H2 => ∃ o, DGet H2 a y o ∧ Q (o.getD .non) H2 := rfl
theorem tDIn_ : tDIn ty td σ H Q = ty σ H fun y H1 => td σ H1 fun x H2 => ∃ a o, x = .ref a ∧ DGet H2 a y o ∧ Q (.bl o.isSome) H2 := rfl
theorem tDNotIn_ : tDNotIn ty td σ H Q = ty σ H fun y H1 => td σ H1 fun x H2 => ∃ a o, x = .ref a ∧ DGet H2 a y o ∧ Q (.bl (!o.isSome)) H2 := rfl
theorem tMeth_ {C : Addr} {m : Str} {sp : Sp} {dvs : List V} {E : XK} : tMeth C m sp dvs E te t σ H Q = te σ H fun x H1 => ∃ a dx fs, x = .ref a ∧ H1 a = some (.ins C dx fs) ∧ fs.lookup m = none ∧ t σ H1 fun vs H2 => sp (x :: (vs ++ dvs)) H2 Q E := rfl
theorem rSortedS_ {vs : List V} : rSortedS K vs H Q = ∃ (a : Addr) (xs : List Str), vs = [V.ref a] ∧ SqL K H a (xs.map V.str) ∧ xs.length < 64 ∧ ∀ (ys : List Str) (p : Addr), ys.Perm xs → sortedS ys = true → H p = none → Q (.ref p) (upd H p (.lst (ys.map V.str))) := rfl
def tMethKw (C : Addr) (m : Str) (n : Nat) (sp : Sp) (E : XK) (ta : TE) (tk : TA) : TE := fun σ H Q => ta σ H fun x H1 => ∃ a dx fs, x = .ref a ∧ H1 a = some (.ins C dx fs) ∧ fs.lookup m = none ∧ tk σ H1 fun zs H2 => zs.length = n ∧ sp (x :: zs) H2 Q E
theorem tMethKw_ {C : Addr} {m : Str} {n : Nat} {sp : Sp} {E : XK} {tk : TA} : tMethKw C m n sp E te tk σ H Q = te σ H fun x H1 => ∃ a dx fs, x = .ref a ∧ H1 a = some (.ins C dx fs) ∧ fs.lookup m = none ∧ tk σ H1 fun zs H2 => zs.length = n ∧ sp (x :: zs) H2 Q E := rfl
end
/-- a for over a tuple, by an invariant -/
theorem for_t {K : PySem.W.Frag} {a : Addr} {xs : List V} {g : TG} {tb : TS} {D : Ends} {σ : L2.St} {H : Hp} (Pv : Nat → L2.St → Hp → Prop) (h0 : Pv 0 σ H) (hl : ∀ i σ H, i ≤ xs.length → Pv i σ H → SqT K H a xs)
    (hs : ∀ i x σ H, xs[i]? = some x → Pv i σ H → g x σ H fun σ2 H2 => tb { D with nx := Pv (i + 1), ct := Pv (i + 1), bk := D.nx } σ2 H2) (hd : ∀ σ H, Pv xs.length σ H → D.nx σ H) : tFor (fun _ H R => R (Itt K a) H) g tb D σ H :=
  for_it walk_tup Pv h0 hl (fun i x σ H H' hi hp hy => by
    obtain ⟨rfl, hx⟩ := hy
    exact hs i x σ _ hx hp) hd
theorem tFor_enumL {K : PySem.W.Frag} {ta : TA} {g : TG} {tb : TS} {D : Ends} {σ : L2.St} {H : Hp} : tFor (iEnum K ta) g tb D σ H = ta σ H fun vs H1 => ∃ a xs, vs = [.ref a] ∧ SqL K H1 a xs ∧ tFor (fun _ H R => R (Ite K a) H) g tb D σ H1 := by
  unfold tFor iEnum
  rfl
/-- a for over enumerate(list), by an invariant -/
theorem for_enumL {K : PySem.W.Frag} {a : Addr} {xs : List V} {g : TG} {tb : TS} {D : Ends} {σ : L2.St} {H : Hp} (Pv : Nat → L2.St → Hp → Prop) (h0 : Pv 0 σ H) (hl : ∀ i σ H, i ≤ xs.length → Pv i σ H → SqL K H a xs)
    (hs : ∀ i x σ H N, xs[i]? = some x → Pv i σ H → H N = none → g (.ref N) σ (upd H N (.tup [.int (i : Nat), x])) fun σ2 H2 => tb { D with nx := Pv (i + 1), ct := Pv (i + 1), bk := D.nx } σ2 H2) (hd : ∀ σ H, Pv xs.length σ H → D.nx σ H) :
    tFor (fun _ H R => R (Ite K a) H) g tb D σ H := for_it walk_enum Pv h0 hl (fun i x σ H H' hi hp hy => by
      obtain ⟨N, y, z, rfl, hN, rfl, e, hx⟩ := hy
      cases e
      exact hs i z σ H N hx hp hN) hd
/-- x not in a list, within a comprehension -/
theorem op_notIn_seqK {X : Cx} {K : PySem.W.Frag} (hK : X.K = K) : OpR X (compareOp .NotIn) (rIn K true) := by
  subst hK
  exact op_notIn_seq
/-- the name is one of the comprehension's own -/
theorem sw_false {elt : Expr} {gs : List Comprehension} {scope : Scope} {pos py : Pos} {y : Str} {l : Nat} {env : Env}
    (ha : (scope.names.any fun (n, k) => n == y && (k == .local || k == .cell)) = true) : swapsWith (.ListComp elt gs scope pos) (some (.Name y py)) l env = pure false := by
  unfold swapsWith
  simp only [ha]
  simp
section
variable {X : Cx} {CX : CXT} {k : Nat} {f C : Addr} {fd : FuncData} {ps ks : List Str} {sp : Sp} {E : XK} {m : Str} {o : Expr} {apos pos : Pos} {kws : List Keyword} {tk : TA} {ta : TE}
/-- the keywords' names the other way round -/
theorem kbn1R {K : PySem.W.Frag} {x qual : Str} {params : Arguments} {body : List Stmt} {scope : Scope} {f : Addr} {fd : FuncData} {ps : List Str} (F : FunD K x qual params body scope [] [] f fd) (ks : List Str)
    (h : ∀ (kV doc pm : Value) (an : Option Addr) (cdv ct : Value) (u : Value) (ws : List Value), ws.length = ks.length → bindArgs (PySem.W.fnOf x qual params body scope .none kV doc pm an cdv ct) ⟨[u], ks.zip ws⟩ = pure (ps.zip (u :: ws.reverse))) :
    KBn K fd ps 1 ks (fun us ws => us ++ ws.reverse) (fun vs zs => vs ++ zs.reverse) := by
  obtain ⟨oc, od, dV, kV, doc, pm, an, cdv, ct, sl, e, lk, hcd, hD, hK⟩ := F.ex
  rcases hD with ⟨_, e2⟩ | ⟨z, _⟩
  · subst e2 e
    refine ⟨fun s us ws Z l1 l2 => ?_, fun r r' => r.append (Rv.vals_rev r')⟩
    obtain ⟨u, rfl⟩ : ∃ u, us = [u] := by
      match us, l1 with
      | [u], _ => exact ⟨u, rfl⟩
    exact .of_eq (h kV doc pm an cdv ct u ws l2)
  · exact absurd rfl z
/-- o.m(k = v, ..) -/
theorem pe_methKw {pl : Sem Bool} (he : PE X o ta) (c : Cls X.K C) (hm : Meth X.K C m f) (F : FnOk X.prog X.w X.K X.mg X.base CX k f fd ps sp) (hr : Room k X.A) (hb : KBn X.K fd ps 1 ks (fun us ws => us ++ ws) (fun vs zs => vs ++ zs)) (hx : Passes CX X E) (hkw : PK X kws tk)
    (hall : (backToKw pos (keywordEach kws X.env)).all (·.1.isSome) = true := by rfl) (hks : (backToKw pos (keywordEach kws X.env)).filterMap (·.1) = ks := by rfl)
    (hpl : ((backTo pos (starEach [] X.env)).any (·.1) || (backToKw pos (keywordEach kws X.env)).any (·.1.isNone)) = false := by rfl)
    (ht : eval (.Call (.Attribute o m apos) [] kws pos) X.env = (do
      let ov ← eval o X.env
      standAt apos.atName
      let (f, first) ← holding [ov] (getMethod ov m pl)
      callWith pos f first (backTo pos (starEach [] X.env)) (backToKw pos (keywordEach kws X.env))) := by rfl) :
    PE X (.Call (.Attribute o m apos) [] kws pos) (tMethKw C m ks.length sp E ta tk) := by
  refine ⟨fun pins s σ H Q I h => ?_⟩
  refine PySem.W.methodCall_KW (pl := pl) (thn (he.run pins s σ H _ I h) fun u s1 ⟨x, H1, I1, rx, a, dx, fs, ex, ea, l, q⟩ => ?_) ht
  subst ex
  obtain rfl : u = Value.ref a := rx
  refine getmeth_ok I1 ea c hm l ?_
  refine PySem.W.callWith_KW0 (first := [.ref a]) (h₀ := X.base) I1.ok.mod.kin hm.kp hall ?_ hpl
  refine thn (hkw.run pos pins s1 σ H1 _ I1 q) ?_
  rintro ws s2 ⟨zs, H2, I2, rz, l2, q2⟩
  refine ⟨I2.kIn, ?_⟩
  rw [hks]
  exact run_fnN (us := [.ref a]) (vs := [.ref a]) F hr hb hx I2 (.cons rfl .nil) rz rfl l2 q2
end
end Sy

set_option Elab.async false
set_option linter.all false
set_option maxRecDepth 100000
set_option maxHeartbeats 4000000
namespace K40S
open PySem PySem.Spec PyProof.Rows L2 Rd Dt Dq Pk Ln En Sx Sy
local macro_rules | `(tactic| walk_at "rd") => `(tactic| try simp only [↓Sy.tTupP_, ↓Sy.rTupP_, ↓Sy.rCatP_, ↓Sy.rSlP_, ↓Sy.rDictT_, ↓Sy.tDGet_, ↓Sy.tDGet1_, ↓Sy.tDIn_, ↓Sy.tDNotIn_, ↓Sy.tMeth_, ↓Sy.tMethKw_, ↓Sy.rSortedS_, ↓Sx.rIsT_, ↓En.tFor_enumT, ↓Sy.tFor_enumL, ↓Rv.tMakeKw_, ↓Prp.tProp_, ↓Lo.tBits_, ↓Lo.tJs_n, ↓Lo.tJs_c, ↓Lo.tFmt_, ↓Lo.gFld_, ↓Lo.tMake_, ↓Lo.rOwn_, ↓Rg.tFor_range3, ↓Rg.tLc_range3, ↓Rg.tLstC_, ↓Rg.tLc_rngV, ↓Le.rNeLE_, ↓Le.rEqLE_, ↓Ls.tLc_str, ↓Ls.sDPut_, ↓Rl.rReprL_, ↓Rl.tCallKS_, ↓Ob.tFld_, ↓Ob.sFld_, ↓tVar_, ↓tC_, ↓tM1, ↓tDNewK_, ↓tOp_, ↓tUn_, ↓rI_, ↓rI0_, ↓rU_, ↓eq_ii, ↓ne_ii, ↓eq_ss, ↓ne_ss, ↓eq_bb, ↓ne_bb, ↓tAndV_, ↓tOrV_, ↓tNotV_, ↓tIf_, ↓tTest_, ↓tB_, ↓tAnd_, ↓tOr_, ↓tNot_, ↓tChain_, ↓tNil_, ↓tCons_, ↓tTup_, ↓tLst_, ↓tCB_, ↓tCall_, ↓tSeq_, ↓tNext_, ↓tRet_, ↓tRetN_, ↓tDrop_, ↓tBreak_, ↓tNever_, ↓tIfS_, ↓tAsg_, ↓gName_, ↓gTup_, ↓gCons_, ↓gNil_, ↓gSub_, ↓tPar_, ↓tPar3_, ↓tSl_, ↓tNoPart_, ↓tPart_, ↓tBM_, ↓tFor_range1, ↓tFor_range2, ↓tFor_list, ↓tFor_tup, L2.start, List.headD_cons, List.headD_nil, List.tail_cons, List.map_cons, List.map_nil, List.length_cons, List.length_nil, List.replicate, List.append_nil, List.nil_append, List.cons_append, List.getElem?_cons_zero, List.getElem?_cons_succ, List.set_cons_zero, List.set_cons_succ, Option.some.injEq, V.int.injEq, V.bl.injEq, V.str.injEq, V.ref.injEq, exists_eq_left, exists_eq_left', exists_eq_right, exists_eq, exists_and_left, and_true, true_and, decide_eq_true_eq, Nat.reduceAdd, Nat.reduceSub, Nat.add_zero, Nat.zero_add, List.cons.injEq, Bool.not_eq_true', decide_eq_false_iff_not, eq_self, reduceCtorEq, Bool.false_eq_true, if_true, if_false, ite_true, ite_false, and_self, ↓tLc_range1, ↓tLc_range2, ↓tLc_list, ↓tLc_tup, ↓tYes_, wipe0, wipe1, ↓tCallS_, ↓rIxL_, ↓rIxT_, ↓rSlL_, ↓rCat_, ↓rSetL_, ↓rRep_, ↓rGcd_, ↓tCallK_, ↓gUnl_, ↓tRaise_, decide_true, decide_false, not_true_eq_false, not_false_eq_true, false_and, or_false, false_or, and_false, and_assoc, exists_const, forall_const, forall_eq'])
section
variable {P : Program} {w : World} {K : PySem.W.Frag} {mg : Str → Option Value} {base : Heap}
/-! ### values -/
def spWhole : Sp := fun vs H Q _ => ∃ v : Int, vs = [.int v] ∧ Q (.bl true) H
theorem sc_whole : FnScope ["value"] ["value"] (defScope (top 15)) := ⟨rfl, rfl, rfl, by decide +kernel, rfl, by decide +kernel, by decide +kernel⟩
theorem ok_whole {f : Addr} {fd : FuncData} (T : Tx mg) (F : FD K "is_whole" (top 15) f fd) : FnOk P w K mg base CX0 1 f fd ["value"] spWhole := by
  refine F.ok sc_whole (fun vs H Q E h => ?_) (fun cdv A outer s H vs Q E hr h => ?_)
  · obtain ⟨x, rfl, _⟩ := h
    rfl
  · obtain ⟨x, rfl, k⟩ := h
    refine ⟨_, (pss_one (ps_ret (pe_and (pe_callB call_isi (by rfl) T.b_isinstance (by decide +kernel) (pa_cons (pv 0) (pa_cons (pe_bltn (v := .ty "int") rfl T.b_int (by decide +kernel) rfl) pa_nil))) (pe_one (pe_not (pe_callB call_isi (by rfl) T.b_isinstance (by decide +kernel) (pa_cons (pv 0) (pa_cons (pe_bltn (v := .ty "bool") rfl T.b_bool (by decide +kernel) rfl) pa_nil)))))))), ?_⟩
    exact ⟨_, rfl, _, _, .type "int", .type "int", true, rfl, .ty _, .base (.int _), rfl, _, rfl, _, rfl, _, _, .type "int", .type "bool", false, rfl, .ty _, .base (.int _), rfl, _, rfl, k⟩
def spBetween : Sp := fun vs H Q _ => ∃ v l h : Int, vs = [.int v, .int l, .int h] ∧ Q (.bl (decide (l ≤ v) && decide (v ≤ h))) H
theorem sc_between : FnScope ["value", "low", "high"] ["value", "low", "high"] (defScope (top 16)) := ⟨rfl, rfl, rfl, by decide +kernel, rfl, by decide +kernel, by decide +kernel⟩
theorem ok_between {f : Addr} {fd : FuncData} (T : Tx mg) (F : FD K "is_between" (top 16) f fd) {f1 : Addr} {fd1 : FuncData} (C1 : Cal P w K mg base CX0 1 "is_whole" ["value"] spWhole f1 fd1) : FnOk P w K mg base CX0 2 f fd ["value", "low", "high"] spBetween := by
  obtain ⟨gis_whole, kis_whole, bis_whole, Fis_whole⟩ := C1
  refine F.ok sc_between (fun vs H Q E h => ?_) (fun cdv A outer s H vs Q E hr h => ?_)
  · obtain ⟨_, _, _, rfl, _⟩ := h
    rfl
  · obtain ⟨v, l, h, rfl, k⟩ := h
    have nd := sc_between.nd
    refine ⟨_, (pss_one (ps_ret (pe_and (pe_call Fis_whole (hr.mono (by omega)) rfl gis_whole kis_whole bis_whole .nil pass0 (pa_cons (pv 0) pa_nil)) (pe_and (pe_cmpR op_le (pv 1) (pv 0) (nomark _)) (pe_one (pe_cmpR op_le (pv 0) (pv 2) (nomark _))))))), ?_⟩
    walk_at "rd"
    refine ⟨v, rfl, ?_⟩
    walk_at "rd"
    by_cases c : l ≤ v
    · rw [decide_eq_true c] at k
      rw [if_pos c]
      exact k
    · rw [decide_eq_false c] at k
      rw [if_neg c]
      exact k
def spPlace : Sp := fun vs H Q _ => ∃ v : Int, vs = [.int v] ∧ Q (.bl (decide (0 ≤ v) && decide (v ≤ 999))) H
theorem sc_place : FnScope ["value"] ["value"] (defScope (top 17)) := ⟨rfl, rfl, rfl, by decide +kernel, rfl, by decide +kernel, by decide +kernel⟩
theorem ok_place {f : Addr} {fd : FuncData} (T : Tx mg) (F : FD K "is_place" (top 17) f fd) {f1 : Addr} {fd1 : FuncData} (C1 : Cal P w K mg base CX0 2 "is_between" ["value", "low", "high"] spBetween f1 fd1) : FnOk P w K mg base CX0 3 f fd ["value"] spPlace := by
  obtain ⟨gis_between, kis_between, bis_between, Fis_between⟩ := C1
  refine F.ok sc_place (fun vs H Q E h => ?_) (fun cdv A outer s H vs Q E hr h => ?_)
  · obtain ⟨_, rfl, _⟩ := h
    rfl
  · obtain ⟨v, rfl, k⟩ := h
    have nd := sc_place.nd
    obtain ⟨_, hMP⟩ := T.mp
    refine ⟨_, (pss_one (ps_ret (pe_call Fis_between (hr.mono (by omega)) rfl gis_between kis_between bis_between .nil pass0 (pa_cons (pv 0) (pa_cons pe_int (pa_cons (pe_glob (v := .int 999) rfl hMP ⟨_, rfl⟩) pa_nil)))))), ?_⟩
    walk_at "rd"
    exact ⟨v, 0, 999, rfl, k⟩
theorem let_has {c : Nat} (h1 : 97 ≤ c) (h2 : c ≤ 122) : c ∈ abc.cps.toList := by
  have e : abc.cps.toList = [97, 98, 99, 100, 101, 102, 103, 104, 105, 106, 107, 108, 109, 110, 111, 112, 113, 114, 115, 116, 117, 118, 119, 120, 121, 122] := by decide +kernel
  rw [e]
  simp only [List.mem_cons, List.not_mem_nil, or_false]
  omega
def spLetter : Sp := fun vs H Q _ => ∃ c : Nat, vs = [.str (L1 c)] ∧ 97 ≤ c ∧ c ≤ 122 ∧ Q (.bl true) H
theorem sc_letter : FnScope ["value"] ["value"] (defScope (top 18)) := ⟨rfl, rfl, rfl, by decide +kernel, rfl, by decide +kernel, by decide +kernel⟩
theorem ok_letter {f : Addr} {fd : FuncData} (T : Tx mg) (F : FD K "is_letter" (top 18) f fd) : FnOk P w K mg base CX0 1 f fd ["value"] spLetter := by
  refine F.ok sc_letter (fun vs H Q E h => ?_) (fun cdv A outer s H vs Q E hr h => ?_)
  · obtain ⟨_, rfl, _⟩ := h
    rfl
  · obtain ⟨c, rfl, h1, h2, k⟩ := h
    have nd := sc_letter.nd
    obtain ⟨_, hLET⟩ := T.lets
    refine ⟨_, (pss_one (ps_ret (pe_and (pe_callB call_isi (by rfl) T.b_isinstance (by decide +kernel) (pa_cons (pv 0) (pa_cons (pe_bltn (v := .ty "str") rfl T.b_str (by decide +kernel) rfl) pa_nil))) (pe_and (pe_cmpR op_eq (pe_callB call_len_str (by rfl) T.b_len PySem.boot_len (pa_cons (pv 0) pa_nil)) pe_int (nomark _)) (pe_one (pe_cmpR op_in_sign (pv 0) (pe_glob (v := .str abc) rfl hLET ⟨_, rfl⟩) rfl)))))), ?_⟩
    walk_at "rd"
    refine ⟨_, _, .type "str", .type "str", true, rfl, .ty _, .base (.str _), rfl, _, rfl, ?_⟩
    rw [if_pos rfl]
    have e1 : (L1 c).length = 1 := rfl
    have e2 : ((L1 c).length : Int) = 1 := by rw [e1]; rfl
    refine ⟨by rw [e1]; decide, ?_⟩
    rw [if_pos e2]
    refine ⟨c, rfl, ?_⟩
    rw [show decide (c ∈ abc.cps.toList) = true from decide_eq_true (let_has h1 h2)]
    exact k
def spPair (K : PySem.W.Frag) : Sp := fun vs H Q _ => ∃ (a : Addr) (x y : V), vs = [.ref a] ∧ SqT K H a [x, y] ∧ Q (.bl true) H
theorem sc_pair : FnScope ["value"] ["value"] (defScope (top 19)) := ⟨rfl, rfl, rfl, by decide +kernel, rfl, by decide +kernel, by decide +kernel⟩
theorem ok_pair {f : Addr} {fd : FuncData} (T : Tx mg) (F : FD K "is_pair" (top 19) f fd) : FnOk P w K mg base CX0 1 f fd ["value"] (spPair K) := by
  refine F.ok sc_pair (fun vs H Q E h => ?_) (fun cdv A outer s H vs Q E hr h => ?_)
  · obtain ⟨_, _, _, rfl, _⟩ := h
    rfl
  · obtain ⟨a, x, y, rfl, ha, k⟩ := h
    have nd := sc_pair.nd
    refine ⟨_, (pss_one (ps_ret (pe_and (pe_callB (Sx.call_isT (K := K) rfl) (by rfl) T.b_isinstance (by decide +kernel) (pa_cons (pv 0) (pa_cons (pe_bltn (v := .ty "tuple") rfl T.b_tuple (by decide +kernel) rfl) pa_nil))) (pe_one (pe_cmpR op_eq (pe_callB call_len_seq (by rfl) T.b_len PySem.boot_len (pa_cons (pv 0) pa_nil)) pe_int (nomark _)))))), ?_⟩
    walk_at "rd"
    exact ⟨_, ha, _, .inr ha, k⟩
end
end K40S

set_option Elab.async false
set_option linter.all false
set_option maxRecDepth 100000
set_option maxHeartbeats 4000000
namespace K40S
open PySem PySem.Spec PyProof.Rows L2 Rd Dt Dq Pk Ln En Sx Sy
local macro_rules | `(tactic| walk_at "rd") => `(tactic| try simp only [↓Sy.tTupP_, ↓Sy.rTupP_, ↓Sy.rCatP_, ↓Sy.rSlP_, ↓Sy.rDictT_, ↓Sy.tDGet_, ↓Sy.tDGet1_, ↓Sy.tDIn_, ↓Sy.tDNotIn_, ↓Sy.tMeth_, ↓Sy.tMethKw_, ↓Sy.rSortedS_, ↓Sx.rIsT_, ↓En.tFor_enumT, ↓Sy.tFor_enumL, ↓Rv.tMakeKw_, ↓Prp.tProp_, ↓Lo.tBits_, ↓Lo.tJs_n, ↓Lo.tJs_c, ↓Lo.tFmt_, ↓Lo.gFld_, ↓Lo.tMake_, ↓Lo.rOwn_, ↓Rg.tFor_range3, ↓Rg.tLc_range3, ↓Rg.tLstC_, ↓Rg.tLc_rngV, ↓Le.rNeLE_, ↓Le.rEqLE_, ↓Ls.tLc_str, ↓Ls.sDPut_, ↓Rl.rReprL_, ↓Rl.tCallKS_, ↓Ob.tFld_, ↓Ob.sFld_, ↓tVar_, ↓tC_, ↓tM1, ↓tDNewK_, ↓tOp_, ↓tUn_, ↓rI_, ↓rI0_, ↓rU_, ↓eq_ii, ↓ne_ii, ↓eq_ss, ↓ne_ss, ↓eq_bb, ↓ne_bb, ↓tAndV_, ↓tOrV_, ↓tNotV_, ↓tIf_, ↓tTest_, ↓tB_, ↓tAnd_, ↓tOr_, ↓tNot_, ↓tChain_, ↓tNil_, ↓tCons_, ↓tTup_, ↓tLst_, ↓tCB_, ↓tCall_, ↓tSeq_, ↓tNext_, ↓tRet_, ↓tRetN_, ↓tDrop_, ↓tBreak_, ↓tNever_, ↓tIfS_, ↓tAsg_, ↓gName_, ↓gTup_, ↓gCons_, ↓gNil_, ↓gSub_, ↓tPar_, ↓tPar3_, ↓tSl_, ↓tNoPart_, ↓tPart_, ↓tBM_, ↓tFor_range1, ↓tFor_range2, ↓tFor_list, ↓tFor_tup, L2.start, List.headD_cons, List.headD_nil, List.tail_cons, List.map_cons, List.map_nil, List.length_cons, List.length_nil, List.replicate, List.append_nil, List.nil_append, List.cons_append, List.getElem?_cons_zero, List.getElem?_cons_succ, List.set_cons_zero, List.set_cons_succ, Option.some.injEq, V.int.injEq, V.bl.injEq, V.str.injEq, V.ref.injEq, exists_eq_left, exists_eq_left', exists_eq_right, exists_eq, exists_and_left, and_true, true_and, decide_eq_true_eq, Nat.reduceAdd, Nat.reduceSub, Nat.add_zero, Nat.zero_add, List.cons.injEq, Bool.not_eq_true', decide_eq_false_iff_not, eq_self, reduceCtorEq, Bool.false_eq_true, if_true, if_false, ite_true, ite_false, and_self, ↓tLc_range1, ↓tLc_range2, ↓tLc_list, ↓tLc_tup, ↓tYes_, wipe0, wipe1, ↓tCallS_, ↓rIxL_, ↓rIxT_, ↓rSlL_, ↓rCat_, ↓rSetL_, ↓rRep_, ↓rGcd_, ↓tCallK_, ↓gUnl_, ↓tRaise_, decide_true, decide_false, not_true_eq_false, not_false_eq_true, false_and, or_false, false_or, and_false, and_assoc, exists_const, forall_const, forall_eq'])
section
variable {P : Program} {w : World} {K : PySem.W.Frag} {mg : Str → Option Value} {base : Heap}
/-! ### names and cells looked at -/
theorem asc_next {ns : List (Nat × Nat)} (h : Asc ns) {i : Nat} {a b : Nat × Nat} (e1 : ns[i]? = some a) (e2 : ns[i + 1]? = some b) : a.1 < b.1 := by
  obtain ⟨h1, rfl⟩ := List.getElem?_eq_some_iff.mp e1
  obtain ⟨h2, rfl⟩ := List.getElem?_eq_some_iff.mp e2
  exact List.pairwise_iff_getElem.mp h i (i + 1) h1 h2 (Nat.lt_succ_self i)
theorem lt_L1 {c d : Nat} (h : c < d) : (L1 c).cps.toList < (L1 d).cps.toList := by
  show [c] < [d]
  exact List.cons_lt_cons_iff.mpr (.inl h)
theorem map_at {α β : Type} {f : α → β} {l : List α} {i : Nat} {y : β} (h : (l.map f)[i]? = some y) : ∃ x, l[i]? = some x ∧ y = f x := by
  rw [List.getElem?_map] at h
  obtain ⟨x, h1, h2⟩ := Option.map_eq_some_iff.mp h
  exact ⟨x, h1, h2.symm⟩
def spNames (K : PySem.W.Frag) : Sp := fun vs H Q _ => ∃ (a : Addr) (ns : List (Nat × Nat)), vs = [.ref a] ∧ PrsAt K H a (ns.map nk) ∧ NmOk ns ∧ Q (.bl true) H
def nmP (H0 : Hp) (a : Addr) (ns : List (Nat × Nat)) (i : Nat) : L2.St → Hp → Prop := fun σ H => H = H0 ∧ ∃ (x : Option V) (l : Str), (∀ n, ns[i]? = some n → l.cps.toList < (L1 n.1).cps.toList) ∧ σ = [some (.ref a), some (.str l), x]
theorem sc_nm : FnScope ["value", "last", "pair"] ["value"] (defScope (top 21)) := ⟨rfl, rfl, rfl, by decide +kernel, rfl, by decide +kernel, by decide +kernel⟩
theorem ok_nm {f : Addr} {fd : FuncData} (T : Tx mg) (F : FD K "are_name_pairs" (top 21) f fd) {f1 f2 f3 : Addr} {fd1 fd2 fd3 : FuncData} (C1 : Cal P w K mg base CX0 1 "is_pair" ["value"] (spPair K) f1 fd1) (C2 : Cal P w K mg base CX0 1 "is_letter" ["value"] spLetter f2 fd2)
    (C3 : Cal P w K mg base CX0 3 "is_place" ["value"] spPlace f3 fd3) : FnOk P w K mg base CX0 4 f fd ["value"] (spNames K) := by
  obtain ⟨gis_pair, kis_pair, bis_pair, Fis_pair⟩ := C1
  obtain ⟨gis_letter, kis_letter, bis_letter, Fis_letter⟩ := C2
  obtain ⟨gis_place, kis_place, bis_place, Fis_place⟩ := C3
  refine F.ok sc_nm (fun vs H Q E h => ?_) (fun cdv A outer s H vs Q E hr h => ?_)
  · obtain ⟨_, _, rfl, _⟩ := h
    rfl
  · obtain ⟨a, ns, rfl, ⟨xs, ha, hp⟩, ok, k⟩ := h
    have nd := sc_nm.nd
    obtain ⟨_, hMN⟩ := T.mn
    have hl := hp.len
    rw [List.length_map] at hl
    refine ⟨_, (pss_cons (ps_if (PW.pt (pw_or (pt_not (pt_val (pe_callB (Sx.call_isT (K := K) rfl) (by rfl) T.b_isinstance (by decide +kernel) (pa_cons (pv 0) (pa_cons (pe_bltn (v := .ty "tuple") rfl T.b_tuple (by decide +kernel) rfl) pa_nil))))) (pw_or1 (pt_not (pt_chain op_le op_le pe_int (pe_callB call_len_seq (by rfl) T.b_len PySem.boot_len (pa_cons (pv 0) pa_nil)) (pe_glob (v := .int 4) rfl hMN ⟨_, rfl⟩)))))) (pss_one (ps_ret pe_bl)) pss_nil)
        (pss_cons (ps_set (i := 1) nd rfl (Or.inl rfl) pe_str)
        (pss_cons (ps_for (passes_of rfl) rfl (pi_tup (pv 0)) (pg_name (i := 2) nd rfl (Or.inl rfl)) (pss_cons (ps_if (PW.pt (pw_or (pt_not (pt_val (pe_call Fis_pair (hr.mono (by omega)) rfl gis_pair kis_pair bis_pair .nil pass0 (pa_cons (pv 2) pa_nil)))) (pw_or (pt_not (pt_val (pe_call Fis_letter (hr.mono (by omega)) rfl gis_letter kis_letter bis_letter .nil pass0 (pa_cons (pe_ix (r := rIxT K) ix_tup (pv 2) pe_int (fun _ _ => rfl)) pa_nil)))) (pw_or (pt_not (pt_val (pe_call Fis_place (hr.mono (by omega)) rfl gis_place kis_place bis_place .nil pass0 (pa_cons (pe_ix (r := rIxT K) ix_tup (pv 2) pe_int (fun _ _ => rfl)) pa_nil)))) (pw_or1 (pt_cmpR op_le_str (pe_ix (r := rIxT K) ix_tup (pv 2) pe_int (fun _ _ => rfl)) (pv 1) (nomark _))))))) (pss_one (ps_ret pe_bl)) pss_nil)
        (pss_one (ps_set (i := 1) nd rfl (Or.inl rfl) (pe_ix (r := rIxT K) ix_tup (pv 2) pe_int (fun _ _ => rfl))))))
        (pss_one (ps_ret pe_bl))))), ?_⟩
    refine sq fun U hU => ?_
    walk_at "rd"
    refine ⟨_, ha.sqt, _, .inr ha.sqt, ?_⟩
    have o1 := ok.1
    have o2 := ok.2.1
    rw [if_pos (by omega), if_neg (by omega)]
    refine hU _ _ ?_
    clear hU
    refine sq fun U hU => ?_
    walk_at "rd"
    refine hU _ _ ?_
    clear hU
    refine sq fun U hU => ?_
    walk_at "rd"
    refine ⟨⟨_, ha.sqt⟩, for_t (K := K) (a := a) (xs := xs) (nmP H a ns) ⟨rfl, none, "", fun n _ => List.nil_lt_cons _ _, rfl⟩ (fun i σ H' _ h => by rw [h.1]; exact ha.sqt) ?_ ?_⟩
    · rintro i x σ H' hi ⟨rfl, x0, l, hlt, rfl⟩
      obtain ⟨kv, b, hkv, rfl, hb⟩ := hp.atV hi
      obtain ⟨n, hn, rfl⟩ := map_at hkv
      obtain ⟨b1, b2, b3⟩ := ok.2.2.1 n (List.mem_of_getElem? hn)
      have hb : SqT K H' b [.str (L1 n.1), .int n.2] := hb
      have lt1 := hlt n hn
      walk_at "rd"
      refine ⟨b, _, _, rfl, hb, true, rfl, ?_⟩
      rw [if_neg (by decide)]
      refine ⟨_, hb, _, rfl, n.1, rfl, b1, b2, true, rfl, ?_⟩
      rw [if_neg (by decide)]
      refine ⟨_, hb, _, rfl, n.2, rfl, true, by rw [decide_eq_true (show (0 : Int) ≤ n.2 by omega), decide_eq_true (show (n.2 : Int) ≤ 999 by omega)]; rfl, ?_⟩
      rw [if_neg (by decide)]
      refine ⟨_, hb, _, rfl, _, rfl, ?_⟩
      rw [if_neg (fun z => z lt1)]
      exact ⟨_, hb, _, rfl, rfl, _, L1 n.1, fun m hm => lt_L1 (asc_next ok.2.2.2 hn hm), rfl⟩
    · rintro σ H' ⟨rfl, x0, l, hlt, rfl⟩
      refine hU _ _ ?_
      walk_at "rd"
      exact k
def spCells (K : PySem.W.Frag) : Sp := fun vs H Q _ => ∃ (a : Addr) (cs : List (Nat × Nat)), vs = [.ref a] ∧ PrsAt K H a (cs.map ck) ∧ ClOk cs ∧ ∀ H', Same H H' → Q .non H'
def clP (H0 : Hp) (a : Addr) (cs : List (Nat × Nat)) (i : Nat) : L2.St → Hp → Prop := fun σ H => Same H0 H ∧ ∃ (l : Nat) (x y : Option V), (∀ c, cs[i]? = some c → l < c.1) ∧ σ = [some (.ref a), some (.int l), x, y]
theorem sc_cl : FnScope ["value", "last", "index", "pair"] ["value"] (defScope (top 22)) := ⟨rfl, rfl, rfl, by decide +kernel, rfl, by decide +kernel, by decide +kernel⟩
theorem ok_cl {f : Addr} {fd : FuncData} (T : Tx mg) (F : FD K "check_cells" (top 22) f fd) {f1 f3 : Addr} {fd1 fd3 : FuncData} (C1 : Cal P w K mg base CX0 1 "is_pair" ["value"] (spPair K) f1 fd1)
    (C3 : Cal P w K mg base CX0 3 "is_place" ["value"] spPlace f3 fd3) : FnOk P w K mg base CX0 4 f fd ["value"] (spCells K) := by
  obtain ⟨gis_pair, kis_pair, bis_pair, Fis_pair⟩ := C1
  obtain ⟨gis_place, kis_place, bis_place, Fis_place⟩ := C3
  refine F.ok sc_cl (fun vs H Q E h => ?_) (fun cdv A outer s H vs Q E hr h => ?_)
  · obtain ⟨_, _, rfl, _⟩ := h
    rfl
  · obtain ⟨a, cs, rfl, ⟨xs, ha, hp⟩, ok, k⟩ := h
    have nd := sc_cl.nd
    obtain ⟨_, hMC⟩ := T.mc
    obtain ⟨_, hEND⟩ := T.en
    have hl := hp.len
    rw [List.length_map] at hl
    refine ⟨_, (pss_cons (ps_if (pt_not (pt_val (pe_callB (Sx.call_isT (K := K) rfl) (by rfl) T.b_isinstance (by decide +kernel) (pa_cons (pv 0) (pa_cons (pe_bltn (v := .ty "tuple") rfl T.b_tuple (by decide +kernel) rfl) pa_nil))))) (pss_one ps_never) pss_nil)
        (pss_cons (ps_set (i := 1) nd rfl (Or.inl rfl) (pe_glob (v := .int 0) rfl hEND ⟨_, rfl⟩))
        (pss_one (ps_for (passes_of rfl) rfl (En.pi_enumT (K := K) rfl rfl T.b_enumerate (pa_cons (pv 0) pa_nil)) (pg_tup rfl (pgs_cons (pg_name (i := 2) nd rfl (Or.inl rfl) (hf := Or.inr rfl)) (pgs_cons (pg_name (i := 3) nd rfl (Or.inl rfl) (hf := Or.inr rfl)) pgs_nil))) (pss_cons (ps_if (PW.pt (pw_or (pt_cmpR op_eq (pv 2) (pe_glob (v := .int 500) rfl hMC ⟨_, rfl⟩) (nomark _)) (pw_or (pt_not (pt_val (pe_call Fis_pair (hr.mono (by omega)) rfl gis_pair kis_pair bis_pair .nil pass0 (pa_cons (pv 3) pa_nil)))) (pw_or (pt_not (pt_val (pe_call Fis_place (hr.mono (by omega)) rfl gis_place kis_place bis_place .nil pass0 (pa_cons (pe_ix (r := rIxT K) ix_tup (pv 3) pe_int (fun _ _ => rfl)) pa_nil)))) (pw_or1 (pt_not (pt_val (pe_call Fis_place (hr.mono (by omega)) rfl gis_place kis_place bis_place .nil pass0 (pa_cons (pe_ix (r := rIxT K) ix_tup (pv 3) pe_int (fun _ _ => rfl)) pa_nil))))))))) (pss_one ps_never) pss_nil)
        (pss_cons (ps_if (pt_cmpR op_le (pe_ix (r := rIxT K) ix_tup (pv 3) pe_int (fun _ _ => rfl)) (pv 1) (nomark _)) (pss_one ps_never) pss_nil)
        (pss_one (ps_set (i := 1) nd rfl (Or.inl rfl) (pe_ix (r := rIxT K) ix_tup (pv 3) pe_int (fun _ _ => rfl)))))))))), ?_⟩
    refine sq fun U hU => ?_
    walk_at "rd"
    refine ⟨_, ha.sqt, ?_⟩
    refine hU _ _ ?_
    clear hU
    refine sq fun U hU => ?_
    walk_at "rd"
    refine hU _ _ ?_
    clear hU
    walk_at "rd"
    refine ⟨_, ha.sqt, for_enumT (clP H a cs) ⟨fun _ _ e => e, 0, none, none, fun c hc => by have := ok.2.1 c (List.mem_of_getElem? hc); omega, rfl⟩ (fun i σ H' _ h => sqt_up h.1 ha.sqt) ?_ ?_⟩
    · rintro i x σ H' N hi ⟨hs, l, x1, x2, hlt, rfl⟩ hN
      obtain ⟨kv, b, hkv, rfl, hb⟩ := (hp.up hs).atV hi
      have hb2 : SqT K (upd H' N (.tup [.int (i : Nat), .ref b])) b [kV kv.1, kv.2] := sqt_up (same_new hN) hb
      have hN2 : SqT K (upd H' N (.tup [.int (i : Nat), .ref b])) N [.int (i : Nat), .ref b] := SqT.of upd_same
      have s2 : Same H (upd H' N (.tup [.int (i : Nat), .ref b])) := fun c o e => same_new hN _ _ (hs _ _ e)
      generalize upd H' N (.tup [.int (i : Nat), .ref b]) = H2 at hb2 hN2 s2 ⊢
      walk_at "rd"
      obtain ⟨n, hn, rfl⟩ := map_at hkv
      obtain ⟨b1, b2, b3⟩ := ok.2.1 n (List.mem_of_getElem? hn)
      have hb2 : SqT K H2 b [.int n.1, .int n.2] := hb2
      have lt1 := hlt n hn
      have il := (List.getElem?_eq_some_iff.mp hn).1
      have o1 := ok.1
      refine ⟨_, hN2, rfl, _, _, rfl, _, _, rfl, rfl, ?_⟩
      walk_at "rd"
      rw [if_neg (by omega)]
      refine ⟨b, _, _, rfl, hb2, true, rfl, ?_⟩
      rw [if_neg (by decide)]
      refine ⟨_, hb2, _, rfl, n.1, rfl, true, by rw [decide_eq_true (show (0 : Int) ≤ n.1 by omega), decide_eq_true (show (n.1 : Int) ≤ 999 by omega)]; rfl, ?_⟩
      rw [if_neg (by decide)]
      refine ⟨_, hb2, _, rfl, n.2, rfl, true, by rw [decide_eq_true (show (0 : Int) ≤ n.2 by omega), decide_eq_true (show (n.2 : Int) ≤ 999 by omega)]; rfl, ?_⟩
      rw [if_neg (by decide)]
      refine ⟨_, hb2, _, rfl, _, rfl, ?_⟩
      rw [if_neg (by omega)]
      exact ⟨_, hb2, _, rfl, s2, n.1, _, _, fun m hm => asc_next ok.2.2 hn hm, rfl⟩
    · rintro σ H' ⟨hs, l, x1, x2, hlt, rfl⟩
      exact k _ hs
end
end K40S

set_option Elab.async false
set_option linter.all false
set_option maxRecDepth 100000
set_option maxHeartbeats 4000000
namespace K40S
open PySem PySem.Spec PyProof.Rows L2 Rd Dt Dq Pk Ln En Sx Sy
local macro_rules | `(tactic| walk_at "rd") => `(tactic| try simp only [↓Sy.tTupP_, ↓Sy.rTupP_, ↓Sy.rCatP_, ↓Sy.rSlP_, ↓Sy.rDictT_, ↓Sy.tDGet_, ↓Sy.tDGet1_, ↓Sy.tDIn_, ↓Sy.tDNotIn_, ↓Sy.tMeth_, ↓Sy.tMethKw_, ↓Sy.rSortedS_, ↓Sx.rIsT_, ↓En.tFor_enumT, ↓Sy.tFor_enumL, ↓Rv.tMakeKw_, ↓Prp.tProp_, ↓Lo.tBits_, ↓Lo.tJs_n, ↓Lo.tJs_c, ↓Lo.tFmt_, ↓Lo.gFld_, ↓Lo.tMake_, ↓Lo.rOwn_, ↓Rg.tFor_range3, ↓Rg.tLc_range3, ↓Rg.tLstC_, ↓Rg.tLc_rngV, ↓Le.rNeLE_, ↓Le.rEqLE_, ↓Ls.tLc_str, ↓Ls.sDPut_, ↓Rl.rReprL_, ↓Rl.tCallKS_, ↓Ob.tFld_, ↓Ob.sFld_, ↓tVar_, ↓tC_, ↓tM1, ↓tDNewK_, ↓tOp_, ↓tUn_, ↓rI_, ↓rI0_, ↓rU_, ↓eq_ii, ↓ne_ii, ↓eq_ss, ↓ne_ss, ↓eq_bb, ↓ne_bb, ↓tAndV_, ↓tOrV_, ↓tNotV_, ↓tIf_, ↓tTest_, ↓tB_, ↓tAnd_, ↓tOr_, ↓tNot_, ↓tChain_, ↓tNil_, ↓tCons_, ↓tTup_, ↓tLst_, ↓tCB_, ↓tCall_, ↓tSeq_, ↓tNext_, ↓tRet_, ↓tRetN_, ↓tDrop_, ↓tBreak_, ↓tNever_, ↓tIfS_, ↓tAsg_, ↓gName_, ↓gTup_, ↓gCons_, ↓gNil_, ↓gSub_, ↓tPar_, ↓tPar3_, ↓tSl_, ↓tNoPart_, ↓tPart_, ↓tBM_, ↓tFor_range1, ↓tFor_range2, ↓tFor_list, ↓tFor_tup, L2.start, List.headD_cons, List.headD_nil, List.tail_cons, List.map_cons, List.map_nil, List.length_cons, List.length_nil, List.replicate, List.append_nil, List.nil_append, List.cons_append, List.getElem?_cons_zero, List.getElem?_cons_succ, List.set_cons_zero, List.set_cons_succ, Option.some.injEq, V.int.injEq, V.bl.injEq, V.str.injEq, V.ref.injEq, exists_eq_left, exists_eq_left', exists_eq_right, exists_eq, exists_and_left, and_true, true_and, decide_eq_true_eq, Nat.reduceAdd, Nat.reduceSub, Nat.add_zero, Nat.zero_add, List.cons.injEq, Bool.not_eq_true', decide_eq_false_iff_not, eq_self, reduceCtorEq, Bool.false_eq_true, if_true, if_false, ite_true, ite_false, and_self, ↓tLc_range1, ↓tLc_range2, ↓tLc_list, ↓tLc_tup, ↓tYes_, wipe0, wipe1, ↓tCallS_, ↓rIxL_, ↓rIxT_, ↓rSlL_, ↓rCat_, ↓rSetL_, ↓rRep_, ↓rGcd_, ↓tCallK_, ↓gUnl_, ↓tRaise_, decide_true, decide_false, not_true_eq_false, not_false_eq_true, false_and, or_false, false_or, and_false, and_assoc, exists_const, forall_const, forall_eq'])
section
variable {P : Program} {w : World} {K : PySem.W.Frag} {mg : Str → Option Value} {base : Heap}
abbrev FM (K : PySem.W.Frag) (x q : Str) (st : Stmt) (f : Addr) (fd : FuncData) : Prop := FunD K x q (defArgs st) (defBody st) (defScope st) [] [] f fd
/-! ### stores -/
def sf (an ac dp da : Addr) (lt : Str) : List (Str × V) := [("names", .ref an), ("cells", .ref ac), ("places", .ref dp), ("arrows", .ref da), ("letters", .str lt)]
theorem sf_n (an ac dp da : Addr) (lt : Str) : (sf an ac dp da lt).lookup ("names" : Str) = some (.ref an) := rfl
theorem sf_c (an ac dp da : Addr) (lt : Str) : (sf an ac dp da lt).lookup ("cells" : Str) = some (.ref ac) := rfl
theorem sf_p (an ac dp da : Addr) (lt : Str) : (sf an ac dp da lt).lookup ("places" : Str) = some (.ref dp) := rfl
theorem sf_a (an ac dp da : Addr) (lt : Str) : (sf an ac dp da lt).lookup ("arrows" : Str) = some (.ref da) := rfl
theorem sf_l (an ac dp da : Addr) (lt : Str) : (sf an ac dp da lt).lookup ("letters" : Str) = some (.str lt) := rfl
/-- an instance of Store with these names and cells -/
def StA (K : PySem.W.Frag) (C : Addr) (H : Hp) (r : Addr) (ns cs : List (Nat × Nat)) : Prop := ∃ (dx an ac dp da : Addr), H r = some (.ins C dx (sf an ac dp da (lettT ns))) ∧ PrsAt K H an (ns.map nk) ∧ PrsAt K H ac (cs.map ck) ∧
  H dp = some (.dK (ns.map nk)) ∧ H da = some (.dK (cs.map ck)) ∧ NmOk ns ∧ ClOk cs
theorem StA.up {C : Addr} {H H' : Hp} (s : Same H H') {r : Addr} {ns cs : List (Nat × Nat)} (h : StA K C H r ns cs) : StA K C H' r ns cs := by
  obtain ⟨dx, an, ac, dp, da, h1, h2, h3, h4, h5, h6, h7⟩ := h
  exact ⟨dx, an, ac, dp, da, s _ _ h1, h2.up s, h3.up s, s _ _ h4, s _ _ h5, h6, h7⟩
structure StB (K : PySem.W.Frag) (C : Addr) : Prop where
  cl : Cls K C
  nN : NoAttr K C "names"
  nC : NoAttr K C "cells"
  nP : NoAttr K C "places"
  nA : NoAttr K C "arrows"
  nL : NoAttr K C "letters"
structure StM (K : PySem.W.Frag) (mg : Str → Option Value) (C f : Addr) : Prop where
  own : Lo.OwnC K C
  mkr : Mk K C f
  g : mg "Store" = some (.ref C)
def spInit (K : PySem.W.Frag) (C : Addr) : Sp := fun vs H Q _ => ∃ (r dx an ac : Addr) (ns cs : List (Nat × Nat)), vs = [.ref r, .ref an, .ref ac] ∧ H r = some (.ins C dx []) ∧ PrsAt K H an (ns.map nk) ∧ PrsAt K H ac (cs.map ck) ∧ NmOk ns ∧ ClOk cs ∧
  ∀ H', But r H H' → StA K C H' r ns cs → Q .non H'
theorem ins_no {C dx : Addr} {fs : List (Str × V)} (xs : List V) : HO.ins C dx fs ≠ .tup xs ∧ ∀ ob, HO.ins C dx fs ≠ .frz ob (.tup xs) := ⟨fun z => (by cases z), fun _ z => (by cases z)⟩
def inP (H : Hp) (ns : List (Nat × Nat)) (D : Addr) (j : Nat) (H' : Hp) : Prop := Same H H' ∧ H' D = some (.lst (((ns.take j).map fun n => L1 n.1).map V.str))
theorem sc_in : FnScope ["self", "names", "cells", "letter", "place"] ["self", "names", "cells"] (defScope (inClass (top 23) 0)) := ⟨rfl, rfl, rfl, by decide +kernel, rfl, by decide +kernel, by decide +kernel⟩
theorem ok_in {f C : Addr} {fd : FuncData} {q : Str} (T : Tx mg) (W : StB K C) (F : FM K "__init__" q (inClass (top 23) 0) f fd) {f1 f2 : Addr} {fd1 fd2 : FuncData} (C1 : Cal P w K mg base CX0 4 "are_name_pairs" ["value"] (spNames K) f1 fd1)
    (C2 : Cal P w K mg base CX0 4 "check_cells" ["value"] (spCells K) f2 fd2) : FnOk P w K mg base CX0 5 f fd ["self", "names", "cells"] (spInit K C) := by
  obtain ⟨gare_name_pairs, kare_name_pairs, bare_name_pairs, Fare_name_pairs⟩ := C1
  obtain ⟨gcheck_cells, kcheck_cells, bcheck_cells, Fcheck_cells⟩ := C2
  refine F.ok sc_in (fun vs H Q E h => ?_) (fun cdv A outer s H vs Q E hr h => ?_)
  · obtain ⟨_, _, _, _, _, _, rfl, _⟩ := h
    rfl
  · obtain ⟨r, dx, an, ac, ns, cs, rfl, hr0, hn, hc, okn, okc, k⟩ := h
    have nd := sc_in.nd
    refine ⟨_, (pss_cons (ps_if (pt_not (pt_val (pe_call Fare_name_pairs (hr.mono (by omega)) rfl gare_name_pairs kare_name_pairs bare_name_pairs .nil pass0 (pa_cons (pv 1) pa_nil)))) (pss_one ps_never) pss_nil)
        (pss_cons (ps_expr (pe_call Fcheck_cells (hr.mono (by omega)) rfl gcheck_cells kcheck_cells bcheck_cells .nil pass0 (pa_cons (pv 2) pa_nil)))
        (pss_cons (ps_fld (pv 0) (pv 1) rfl)
        (pss_cons (ps_fld (pv 0) (pv 2) rfl)
        (pss_cons (ps_fld (pv 0) (pe_callTy (En.call_dictT (K := K) rfl rfl) (by rfl) T.b_dict (by decide +kernel) (pa_cons (pv 1) pa_nil)) rfl)
        (pss_cons (ps_fld (pv 0) (pe_callTy (En.call_dictT (K := K) rfl rfl) (by rfl) T.b_dict (by decide +kernel) (pa_cons (pv 2) pa_nil)) rfl)
        (pss_one (ps_fld (pv 0) (pe_join pe_str (pe_lc (own := [("letter", 3), ("place", 4)]) rfl nd (pi_tup (pv 1)) (blkOk_by (N := ["self", "names", "cells", "letter", "place"]) (sc := defScope (inClass (top 23) 0)) (by decide +kernel)) (fun _ _ _ _ _ => (pg_tupK (K := K) (n := 2) rfl rfl (pgs_cons (pg_name (i := 3) nd rfl (Or.inl rfl) (hf := Or.inr rfl)) (pgs_cons (pg_name (i := 4) nd rfl (Or.inl rfl) (hf := Or.inr rfl)) pgs_nil)) rfl rfl)) (fun _ _ _ _ _ => pts_nil) (fun _ _ _ _ _ => (pv 3)))) rfl)))))))), ?_⟩
    refine sq fun U hU => ?_
    walk_at "rd"
    refine ⟨an, ns, rfl, hn, okn, true, rfl, ?_⟩
    rw [if_neg (by decide)]
    refine hU _ _ ?_
    clear hU
    refine sq fun U hU => ?_
    walk_at "rd"
    refine ⟨ac, cs, rfl, hc, okc, fun H1 s1 => hU _ _ ?_⟩
    clear hU
    have hr1 := s1 _ _ hr0
    have hn1 := hn.up s1
    have hc1 := hc.up s1
    refine sq fun U hU => ?_
    walk_at "rd"
    refine ⟨C, dx, [], ⟨hr1, W.cl, W.nN, by decide⟩, hU _ _ ?_⟩
    clear hU
    have b2 : But r H1 (upd H1 r (.ins C dx (putF (Str.ofString "names") (.ref an) []))) := But.put
    have hr2 : upd H1 r (.ins C dx (putF (Str.ofString "names") (.ref an) [])) r = some (.ins C dx [("names", .ref an)]) := upd_same
    generalize upd H1 r (.ins C dx (putF (Str.ofString "names") (.ref an) [])) = H2 at b2 hr2 ⊢
    have hn2 := hn1.but b2 hr1 ins_no
    have hc2 := hc1.but b2 hr1 ins_no
    refine sq fun U hU => ?_
    walk_at "rd"
    refine ⟨C, dx, _, ⟨hr2, W.cl, W.nC, show 1 < 1000 by decide⟩, hU _ _ ?_⟩
    clear hU
    have b3 : But r H2 (upd H2 r (.ins C dx (putF (Str.ofString "cells") (.ref ac) [("names", .ref an)]))) := But.put
    have hr3 : upd H2 r (.ins C dx (putF (Str.ofString "cells") (.ref ac) [("names", .ref an)])) r = some (.ins C dx [("names", .ref an), ("cells", .ref ac)]) := upd_same
    generalize upd H2 r (.ins C dx (putF (Str.ofString "cells") (.ref ac) [("names", .ref an)])) = H3 at b3 hr3 ⊢
    have hn3 := hn2.but b3 hr2 ins_no
    have hc3 := hc2.but b3 hr2 ins_no
    have b13 := b2.trans b3
    clear b2 b3 hr2 hn2 hc2
    refine sq fun U hU => ?_
    walk_at "rd"
    obtain ⟨xs, pl, prs⟩ := hn3
    obtain ⟨ps, rfl, pp⟩ := prs.refs
    refine ⟨ps, pl, _, pp, fun dp hdp => ⟨C, dx, [("names", .ref an), ("cells", .ref ac)], ⟨by rw [upd_ne (ne_of_none hr3 hdp)]; exact hr3, W.cl, W.nP, show 2 < 1000 by decide⟩, hU _ _ ?_⟩⟩
    clear hU
    rw [merge_n okn.2.2.2]
    have ndp : dp ≠ r := fun z => by rw [z, hr3] at hdp; cases hdp
    have b4 : But r H3 (upd (upd H3 dp (.dK (ns.map nk))) r (.ins C dx (putF (Str.ofString "places") (.ref dp) [("names", .ref an), ("cells", .ref ac)]))) := fun c o n e => by rw [upd_ne n, upd_ne (ne_of_none e hdp)]; exact e
    have hr4 : upd (upd H3 dp (.dK (ns.map nk))) r (.ins C dx (putF (Str.ofString "places") (.ref dp) [("names", .ref an), ("cells", .ref ac)])) r = some (.ins C dx [("names", .ref an), ("cells", .ref ac), ("places", .ref dp)]) := upd_same
    have hd4 : upd (upd H3 dp (.dK (ns.map nk))) r (.ins C dx (putF (Str.ofString "places") (.ref dp) [("names", .ref an), ("cells", .ref ac)])) dp = some (.dK (ns.map nk)) := by rw [upd_ne ndp, upd_same]
    generalize upd (upd H3 dp (.dK (ns.map nk))) r (.ins C dx (putF (Str.ofString "places") (.ref dp) [("names", .ref an), ("cells", .ref ac)])) = H4 at b4 hr4 hd4 ⊢
    have hn4 : PrsAt K H4 an (ns.map nk) := PrsAt.but b4 hr3 ins_no ⟨_, pl, prs⟩
    have hc4 := hc3.but b4 hr3 ins_no
    clear pl prs pp
    refine sq fun U hU => ?_
    walk_at "rd"
    obtain ⟨xs2, pl2, prs2⟩ := hc4
    obtain ⟨ps2, rfl, pp2⟩ := prs2.refs
    refine ⟨ps2, pl2, _, pp2, fun da hda => ⟨C, dx, [("names", .ref an), ("cells", .ref ac), ("places", .ref dp)], ⟨by rw [upd_ne (ne_of_none hr4 hda)]; exact hr4, W.cl, W.nA, show 3 < 1000 by decide⟩, hU _ _ ?_⟩⟩
    clear hU
    rw [merge_c okc.2.2]
    have nda : da ≠ r := fun z => by rw [z, hr4] at hda; cases hda
    have b5 : But r H4 (upd (upd H4 da (.dK (cs.map ck))) r (.ins C dx (putF (Str.ofString "arrows") (.ref da) [("names", .ref an), ("cells", .ref ac), ("places", .ref dp)]))) := fun c o n e => by rw [upd_ne n, upd_ne (ne_of_none e hda)]; exact e
    have hr5 : upd (upd H4 da (.dK (cs.map ck))) r (.ins C dx (putF (Str.ofString "arrows") (.ref da) [("names", .ref an), ("cells", .ref ac), ("places", .ref dp)])) r = some (.ins C dx [("names", .ref an), ("cells", .ref ac), ("places", .ref dp), ("arrows", .ref da)]) := upd_same
    have he5 : upd (upd H4 da (.dK (cs.map ck))) r (.ins C dx (putF (Str.ofString "arrows") (.ref da) [("names", .ref an), ("cells", .ref ac), ("places", .ref dp)])) da = some (.dK (cs.map ck)) := by rw [upd_ne nda, upd_same]
    generalize upd (upd H4 da (.dK (cs.map ck))) r (.ins C dx (putF (Str.ofString "arrows") (.ref da) [("names", .ref an), ("cells", .ref ac), ("places", .ref dp)])) = H5 at b5 hr5 he5 ⊢
    have hn5 : PrsAt K H5 an (ns.map nk) := hn4.but b5 hr4 ins_no
    have hc5 : PrsAt K H5 ac (cs.map ck) := PrsAt.but b5 hr4 ins_no ⟨_, pl2, prs2⟩
    have hd5 := b5 _ _ ndp hd4
    clear pl2 prs2 pp2
    walk_at "rd"
    obtain ⟨xs, pl, prs⟩ := hn5
    have hl := prs.len
    rw [List.length_map] at hl
    refine ⟨⟨_, rfl⟩, ⟨_, pl.sqt⟩, lc_t (xs := xs) (inP H5 ns) fun D hD => ⟨⟨same_new hD, upd_same⟩, fun j H6 _ hP => sqt_up hP.1 pl.sqt, ?_, ?_⟩⟩
    · rintro j y H6 hy ⟨hs, hL⟩
      obtain ⟨kv, b, hkv, rfl, eb⟩ := (prs.up hs).atV hy
      obtain ⟨n, hn, rfl⟩ := map_at hkv
      have eb : SqT K H6 b [.str (L1 n.1), .int n.2] := eb
      unfold Lturn
      walk_at "rd"
      have jl : j < ns.length := (List.getElem?_eq_some_iff.mp hn).1
      have o2 := okn.2.1
      refine ⟨_, eb, rfl, _, _, rfl, _, _, rfl, rfl, _, hL, ?_, fun c o e => ?_, ?_⟩
      · rw [List.length_map, List.length_map]
        have : (List.take j ns).length ≤ ns.length := List.length_take_le' _ _
        have zl : (1000000 : Nat) ≤ sizeLine := line_big
        omega
      · rw [upd_ne (ne_of_none e hD)]; exact hs c o e
      · rw [upd_same, List.take_succ, hn, List.map_append, List.map_append]; rfl
    · rintro H6 ⟨hs, hL⟩
      rw [hl, List.take_length] at hL
      refine ⟨D, rfl, _, .inl (SqL.of hL), ?_, C, dx, _, ⟨hs _ _ hr5, W.cl, W.nL, show 4 < 1000 by decide⟩, k _ ?_ ?_⟩
      · have h2 := sum_le (fun s : Str => s.length) 1 (ns.map fun n => L1 n.1) (fun s hs' => by
          obtain ⟨n, _, rfl⟩ := List.mem_map.mp hs'
          exact Nat.le_refl _)
        rw [List.length_map] at h2
        have e1 : (Str.ofString "").length = 0 := by decide
        have o2 := okn.2.1
        rw [e1]
        omega
      · intro c o n e
        rw [upd_ne n]
        exact hs _ _ (b5 _ _ n (b4 _ _ n (b13 _ _ n (s1 _ _ e))))
      · have nr : ∀ c o, H6 c = some o → (∀ fs, o ≠ .ins C dx fs) → c ≠ r := fun c o e n z => by
          rw [z, hs _ _ hr5] at e
          exact n _ (Option.some.inj e).symm
        have bb : But r H6 (upd H6 r (.ins C dx (sf an ac dp da (lettT ns)))) := But.put
        exact ⟨dx, an, ac, dp, da, upd_same, PrsAt.but bb (hs _ _ hr5) ins_no (PrsAt.up hs ⟨_, pl, prs⟩), (hc5.up hs).but bb (hs _ _ hr5) ins_no, bb _ _ ndp (hs _ _ hd5), bb _ _ nda (hs _ _ he5), okn, okc⟩
end
end K40S

set_option Elab.async false
set_option linter.all false
set_option maxRecDepth 100000
set_option maxHeartbeats 4000000
namespace K40S
open PySem PySem.Spec PyProof.Rows L2 Rd Dt Dq Pk Ln En Sx Sy
local macro_rules | `(tactic| walk_at "rd") => `(tactic| try simp only [↓Sy.tTupP_, ↓Sy.rTupP_, ↓Sy.rCatP_, ↓Sy.rSlP_, ↓Sy.rDictT_, ↓Sy.tDGet_, ↓Sy.tDGet1_, ↓Sy.tDIn_, ↓Sy.tDNotIn_, ↓Sy.tMeth_, ↓Sy.tMethKw_, ↓Sy.rSortedS_, ↓Sx.rIsT_, ↓En.tFor_enumT, ↓Sy.tFor_enumL, ↓Rv.tMakeKw_, ↓Prp.tProp_, ↓Lo.tBits_, ↓Lo.tJs_n, ↓Lo.tJs_c, ↓Lo.tFmt_, ↓Lo.gFld_, ↓Lo.tMake_, ↓Lo.rOwn_, ↓Rg.tFor_range3, ↓Rg.tLc_range3, ↓Rg.tLstC_, ↓Rg.tLc_rngV, ↓Le.rNeLE_, ↓Le.rEqLE_, ↓Ls.tLc_str, ↓Ls.sDPut_, ↓Rl.rReprL_, ↓Rl.tCallKS_, ↓Ob.tFld_, ↓Ob.sFld_, ↓tVar_, ↓tC_, ↓tM1, ↓tDNewK_, ↓tOp_, ↓tUn_, ↓rI_, ↓rI0_, ↓rU_, ↓eq_ii, ↓ne_ii, ↓eq_ss, ↓ne_ss, ↓eq_bb, ↓ne_bb, ↓tAndV_, ↓tOrV_, ↓tNotV_, ↓tIf_, ↓tTest_, ↓tB_, ↓tAnd_, ↓tOr_, ↓tNot_, ↓tChain_, ↓tNil_, ↓tCons_, ↓tTup_, ↓tLst_, ↓tCB_, ↓tCall_, ↓tSeq_, ↓tNext_, ↓tRet_, ↓tRetN_, ↓tDrop_, ↓tBreak_, ↓tNever_, ↓tIfS_, ↓tAsg_, ↓gName_, ↓gTup_, ↓gCons_, ↓gNil_, ↓gSub_, ↓tPar_, ↓tPar3_, ↓tSl_, ↓tNoPart_, ↓tPart_, ↓tBM_, ↓tFor_range1, ↓tFor_range2, ↓tFor_list, ↓tFor_tup, L2.start, List.headD_cons, List.headD_nil, List.tail_cons, List.map_cons, List.map_nil, List.length_cons, List.length_nil, List.replicate, List.append_nil, List.nil_append, List.cons_append, List.getElem?_cons_zero, List.getElem?_cons_succ, List.set_cons_zero, List.set_cons_succ, Option.some.injEq, V.int.injEq, V.bl.injEq, V.str.injEq, V.ref.injEq, exists_eq_left, exists_eq_left', exists_eq_right, exists_eq, exists_and_left, and_true, true_and, decide_eq_true_eq, Nat.reduceAdd, Nat.reduceSub, Nat.add_zero, Nat.zero_add, List.cons.injEq, Bool.not_eq_true', decide_eq_false_iff_not, eq_self, reduceCtorEq, Bool.false_eq_true, if_true, if_false, ite_true, ite_false, and_self, ↓tLc_range1, ↓tLc_range2, ↓tLc_list, ↓tLc_tup, ↓tYes_, wipe0, wipe1, ↓tCallS_, ↓rIxL_, ↓rIxT_, ↓rSlL_, ↓rCat_, ↓rSetL_, ↓rRep_, ↓rGcd_, ↓tCallK_, ↓gUnl_, ↓tRaise_, decide_true, decide_false, not_true_eq_false, not_false_eq_true, false_and, or_false, false_or, and_false, and_assoc, exists_const, forall_const, forall_eq'])
section
variable {P : Program} {w : World} {K : PySem.W.Frag} {mg : Str → Option Value} {base : Heap}
/-! ### what a store tells -/
theorem StA.fa {C : Addr} (W : StB K C) {H : Hp} {r dx an ac dp da : Addr} {lt : Str} (h : H r = some (.ins C dx (sf an ac dp da lt))) :
    Ob.FA K H r "names" (.ref an) ∧ Ob.FA K H r "cells" (.ref ac) ∧ Ob.FA K H r "places" (.ref dp) ∧ Ob.FA K H r "arrows" (.ref da) ∧ Ob.FA K H r "letters" (.str lt) :=
  ⟨⟨C, dx, _, h, W.cl, W.nN, sf_n _ _ _ _ _⟩, ⟨C, dx, _, h, W.cl, W.nC, sf_c _ _ _ _ _⟩, ⟨C, dx, _, h, W.cl, W.nP, sf_p _ _ _ _ _⟩, ⟨C, dx, _, h, W.cl, W.nA, sf_a _ _ _ _ _⟩, ⟨C, dx, _, h, W.cl, W.nL, sf_l _ _ _ _ _⟩⟩
theorem Asc.look {ns : List (Nat × Nat)} (h : Asc ns) {n : Nat × Nat} (hn : n ∈ ns) : look ns n.1 = some n.2 := by
  unfold Sx.look
  induction ns with
  | nil => cases hn
  | cons x ns ih =>
    unfold Asc at h
    rw [List.pairwise_cons] at h
    rw [List.find?_cons]
    rcases List.mem_cons.mp hn with rfl | hn
    · rw [decide_eq_true rfl]; rfl
    · have := h.1 n hn
      rw [decide_eq_false (by omega)]
      exact ih h.2 hn
/-- at -/
def spAt (K : PySem.W.Frag) (C : Addr) : Sp := fun vs H Q _ => ∃ (r : Addr) (ns cs : List (Nat × Nat)) (n : Nat × Nat), vs = [.ref r, .str (L1 n.1)] ∧ StA K C H r ns cs ∧ n ∈ ns ∧ Q (.int n.2) H
theorem sc_at : FnScope ["self", "letter"] ["self", "letter"] (defScope (inClass (top 23) 3)) := ⟨rfl, rfl, rfl, by decide +kernel, rfl, by decide +kernel, by decide +kernel⟩
theorem ok_at {f C : Addr} {fd : FuncData} {q : Str} (T : Tx mg) (W : StB K C) (F : FM K "at" q (inClass (top 23) 3) f fd) {f1 : Addr} {fd1 : FuncData} (C1 : Cal P w K mg base CX0 1 "is_letter" ["value"] spLetter f1 fd1) : FnOk P w K mg base CX0 2 f fd ["self", "letter"] (spAt K C) := by
  obtain ⟨gis_letter, kis_letter, bis_letter, Fis_letter⟩ := C1
  refine F.ok sc_at (fun vs H Q E h => ?_) (fun cdv A outer s H vs Q E hr h => ?_)
  · obtain ⟨_, _, _, _, rfl, _⟩ := h
    rfl
  · obtain ⟨r, ns, cs, n, rfl, ⟨dx, an, ac, dp, da, hr0, hn, hc, hp, ha, okn, okc⟩, hm, k⟩ := h
    have nd := sc_at.nd
    obtain ⟨b1, b2, b3⟩ := okn.2.2.1 n hm
    obtain ⟨fn, fc, fp, fa, fl⟩ := StA.fa W hr0
    have hg : DGet H dp (.str (L1 n.1)) (some (.int n.2)) := by
      have := DGet.k (k := Sum.inr (L1 n.1)) hp
      rw [val_n, Asc.look okn.2.2.2 hm] at this
      exact this
    refine ⟨_, (pss_cons (ps_if (PW.pt (pw_or (pt_not (pt_val (pe_call Fis_letter (hr.mono (by omega)) rfl gis_letter kis_letter bis_letter .nil pass0 (pa_cons (pv 1) pa_nil)))) (pw_or1 (pt_cmp (pc_dnotin (hu_of hr) (pv 1) (Ob.pe_fldK (K := K) rfl (pv 0) rfl)))))) (pss_one ps_never) pss_nil)
        (pss_one (ps_ret (pe_dget (hu_of hr) (Ob.pe_fldK (K := K) rfl (pv 0) rfl) (pv 1) (fun _ _ => rfl))))), ?_⟩
    refine sq fun U hU => ?_
    walk_at "rd"
    refine ⟨n.1, rfl, b1, b2, true, rfl, ?_⟩
    rw [if_neg (by decide)]
    refine ⟨_, fp, dp, rfl, _, hg, ?_⟩
    rw [if_neg (by simp)]
    refine hU _ _ ?_
    walk_at "rd"
    exact ⟨_, fp, dp, rfl, _, hg, k⟩
/-- arrow -/
def optV (o : Option Nat) : V := match o with
  | some n => .int n
  | none => .non
def spArrow (K : PySem.W.Frag) (C : Addr) : Sp := fun vs H Q _ => ∃ (r : Addr) (ns cs : List (Nat × Nat)) (p : Nat), vs = [.ref r, .int p] ∧ StA K C H r ns cs ∧ p ≤ 999 ∧ Q (optV (look cs p)) H
theorem get_c {H : Hp} {da : Addr} {cs : List (Nat × Nat)} (h : H da = some (.dK (cs.map ck))) (p : Nat) : DGet H da (.int p) ((look cs p).map fun v : Nat => V.int v) := by
  have := DGet.k (k := Sum.inl (p : Int)) h
  rw [val_c, if_pos (by omega), Int.toNat_natCast] at this
  exact this
theorem optV_get (o : Option Nat) : (o.map fun v : Nat => V.int v).getD .non = optV o := by cases o <;> rfl
theorem sc_ar : FnScope ["self", "place"] ["self", "place"] (defScope (inClass (top 23) 4)) := ⟨rfl, rfl, rfl, by decide +kernel, rfl, by decide +kernel, by decide +kernel⟩
theorem ok_ar {f C : Addr} {fd : FuncData} {q : Str} (T : Tx mg) (W : StB K C) (F : FM K "arrow" q (inClass (top 23) 4) f fd) {f1 : Addr} {fd1 : FuncData} (C1 : Cal P w K mg base CX0 3 "is_place" ["value"] spPlace f1 fd1) : FnOk P w K mg base CX0 4 f fd ["self", "place"] (spArrow K C) := by
  obtain ⟨gis_place, kis_place, bis_place, Fis_place⟩ := C1
  refine F.ok sc_ar (fun vs H Q E h => ?_) (fun cdv A outer s H vs Q E hr h => ?_)
  · obtain ⟨_, _, _, _, rfl, _⟩ := h
    rfl
  · obtain ⟨r, ns, cs, p, rfl, ⟨dx, an, ac, dp, da, hr0, hn, hc, hp, ha, okn, okc⟩, hm, k⟩ := h
    have nd := sc_ar.nd
    obtain ⟨fn, fc, fp, fa, fl⟩ := StA.fa W hr0
    refine ⟨_, (pss_cons (ps_if (pt_not (pt_val (pe_call Fis_place (hr.mono (by omega)) rfl gis_place kis_place bis_place .nil pass0 (pa_cons (pv 1) pa_nil)))) (pss_one ps_never) pss_nil)
        (pss_one (ps_ret (pe_dget1 (hu_of hr) (Ob.pe_fldK (K := K) rfl (pv 0) rfl) (pv 1) ⟨rfl, rfl, rfl, rfl⟩)))), ?_⟩
    refine sq fun U hU => ?_
    walk_at "rd"
    refine ⟨p, rfl, true, by rw [decide_eq_true (show (0 : Int) ≤ p by omega), decide_eq_true (show (p : Int) ≤ 999 by omega)]; rfl, ?_⟩
    rw [if_neg (by decide)]
    refine hU _ _ ?_
    walk_at "rd"
    refine ⟨_, fa, da, rfl, .inl ⟨_, .inl ha⟩, _, get_c ha p, ?_⟩
    rw [optV_get]
    exact k
/-- is_gone -/
def goneB (ns cs : List (Nat × Nat)) (p : Nat) : Bool := !decide (p = 0) && ((look cs p).isNone && (ns.any (fun n => decide (n.2 = p)) || cs.any (fun c => decide (c.2 = p))))
def spGone (K : PySem.W.Frag) (C : Addr) : Sp := fun vs H Q _ => ∃ (r : Addr) (ns cs : List (Nat × Nat)) (p : Nat), vs = [.ref r, .int p] ∧ StA K C H r ns cs ∧ p ≤ 999 ∧ ∀ H', Same H H' → Q (.bl (goneB ns cs p)) H'
def goP (H : Hp) (ns : List (Nat × Nat)) (p : Nat) (g : Nat × Nat → Nat) (D : Addr) (j : Nat) (H' : Hp) : Prop := Same H H' ∧ H' D = some (.lst (((ns.take j).filter fun n => decide (n.2 = p)).map fun n => V.int (g n)))
theorem any_fil {α : Type} (p : α → Bool) (l : List α) : decide (¬ l.filter p = []) = l.any p := by
  rw [Bool.eq_iff_iff, decide_eq_true_eq, List.any_eq_true]
  constructor
  · intro h
    obtain ⟨x, hx⟩ := List.exists_mem_of_ne_nil _ h
    rw [List.mem_filter] at hx
    exact ⟨x, hx⟩
  · rintro ⟨x, hx, h⟩ z
    have : x ∈ l.filter p := List.mem_filter.mpr ⟨hx, h⟩
    rw [z] at this
    cases this
theorem goP_step {H : Hp} {ns : List (Nat × Nat)} {p : Nat} {g : Nat × Nat → Nat} {D : Addr} {j : Nat} {H' : Hp} (hl : ns.length ≤ 500) (h : goP H ns p g D j H') (hD : H D = none) {n : Nat × Nat} (hn : ns[j]? = some n) (z : Nat) (ez : g n = z) :
    if (n.2 : Int) = p then ∃ acc, H' D = some (.lst acc) ∧ acc.length < sizeLine ∧ goP H ns p g D (j + 1) (upd H' D (.lst (acc ++ [V.int z]))) else goP H ns p g D (j + 1) H' := by
  obtain ⟨hs, hL⟩ := h
  have zl : (1000000 : Nat) ≤ sizeLine := line_big
  have e1 : (ns.take (j + 1)).filter (fun n => decide (n.2 = p)) = (ns.take j).filter (fun n => decide (n.2 = p)) ++ if n.2 = p then [n] else [] := by
    rw [List.take_succ, hn, List.filter_append]
    congr 1
    by_cases c : n.2 = p
    · rw [if_pos c]; simp [c]
    · rw [if_neg c]; simp [c]
  split
  · rename_i c
    refine ⟨_, hL, ?_, fun c o e => ?_, ?_⟩
    · rw [List.length_map]
      have h1 := List.length_filter_le (fun n : Nat × Nat => decide (n.2 = p)) (ns.take j)
      have h2 : (List.take j ns).length ≤ ns.length := List.length_take_le' _ _
      omega
    · rw [upd_ne (ne_of_none e hD)]; exact hs c o e
    · rw [upd_same, e1, if_pos (by omega), List.map_append, ← ez]; rfl
  · rename_i c
    refine ⟨hs, ?_⟩
    rw [e1, if_neg (by omega), List.append_nil]
    exact hL
end
end K40S

set_option Elab.async false
set_option linter.all false
set_option maxRecDepth 100000
set_option maxHeartbeats 4000000
namespace K40S
open PySem PySem.Spec PyProof.Rows L2 Rd Dt Dq Pk Ln En Sx Sy
local macro_rules | `(tactic| walk_at "rd") => `(tactic| try simp only [↓Sy.tTupP_, ↓Sy.rTupP_, ↓Sy.rCatP_, ↓Sy.rSlP_, ↓Sy.rDictT_, ↓Sy.tDGet_, ↓Sy.tDGet1_, ↓Sy.tDIn_, ↓Sy.tDNotIn_, ↓Sy.tMeth_, ↓Sy.tMethKw_, ↓Sy.rSortedS_, ↓Sx.rIsT_, ↓En.tFor_enumT, ↓Sy.tFor_enumL, ↓Rv.tMakeKw_, ↓Prp.tProp_, ↓Lo.tBits_, ↓Lo.tJs_n, ↓Lo.tJs_c, ↓Lo.tFmt_, ↓Lo.gFld_, ↓Lo.tMake_, ↓Lo.rOwn_, ↓Rg.tFor_range3, ↓Rg.tLc_range3, ↓Rg.tLstC_, ↓Rg.tLc_rngV, ↓Le.rNeLE_, ↓Le.rEqLE_, ↓Ls.tLc_str, ↓Ls.sDPut_, ↓Rl.rReprL_, ↓Rl.tCallKS_, ↓Ob.tFld_, ↓Ob.sFld_, ↓tVar_, ↓tC_, ↓tM1, ↓tDNewK_, ↓tOp_, ↓tUn_, ↓rI_, ↓rI0_, ↓rU_, ↓eq_ii, ↓ne_ii, ↓eq_ss, ↓ne_ss, ↓eq_bb, ↓ne_bb, ↓tAndV_, ↓tOrV_, ↓tNotV_, ↓tIf_, ↓tTest_, ↓tB_, ↓tAnd_, ↓tOr_, ↓tNot_, ↓tChain_, ↓tNil_, ↓tCons_, ↓tTup_, ↓tLst_, ↓tCB_, ↓tCall_, ↓tSeq_, ↓tNext_, ↓tRet_, ↓tRetN_, ↓tDrop_, ↓tBreak_, ↓tNever_, ↓tIfS_, ↓tAsg_, ↓gName_, ↓gTup_, ↓gCons_, ↓gNil_, ↓gSub_, ↓tPar_, ↓tPar3_, ↓tSl_, ↓tNoPart_, ↓tPart_, ↓tBM_, ↓tFor_range1, ↓tFor_range2, ↓tFor_list, ↓tFor_tup, L2.start, List.headD_cons, List.headD_nil, List.tail_cons, List.map_cons, List.map_nil, List.length_cons, List.length_nil, List.replicate, List.append_nil, List.nil_append, List.cons_append, List.getElem?_cons_zero, List.getElem?_cons_succ, List.set_cons_zero, List.set_cons_succ, Option.some.injEq, V.int.injEq, V.bl.injEq, V.str.injEq, V.ref.injEq, exists_eq_left, exists_eq_left', exists_eq_right, exists_eq, exists_and_left, and_true, true_and, decide_eq_true_eq, Nat.reduceAdd, Nat.reduceSub, Nat.add_zero, Nat.zero_add, List.cons.injEq, Bool.not_eq_true', decide_eq_false_iff_not, eq_self, reduceCtorEq, Bool.false_eq_true, if_true, if_false, ite_true, ite_false, and_self, ↓tLc_range1, ↓tLc_range2, ↓tLc_list, ↓tLc_tup, ↓tYes_, wipe0, wipe1, ↓tCallS_, ↓rIxL_, ↓rIxT_, ↓rSlL_, ↓rCat_, ↓rSetL_, ↓rRep_, ↓rGcd_, ↓tCallK_, ↓gUnl_, ↓tRaise_, decide_true, decide_false, not_true_eq_false, not_false_eq_true, false_and, or_false, false_or, and_false, and_assoc, exists_const, forall_const, forall_eq'])
section
variable {P : Program} {w : World} {K : PySem.W.Frag} {mg : Str → Option Value} {base : Heap}
/-! ### as data -/
def dN (ns : List (Nat × Nat)) : PyData := .tuple ((ns.map nk).map pD)
def dC (cs : List (Nat × Nat)) : PyData := .tuple ((cs.map ck).map pD)
theorem fit_nat {n : Nat} (h : n < 1024) : Fit (.int (n : Int)) 0 12 := (Fit.int (k := 10) (by decide) (by decide) (by rw [Int.natAbs_natCast]; exact h)).mono (Nat.le_refl _) (by decide)
theorem fit_pair {a b : PyData} (h1 : Fit a 0 12) (h2 : Fit b 0 12) : Fit (.tuple [a, b]) 1 31 := Fit.tuple fun d hd => by
  rcases List.mem_cons.mp hd with rfl | hd
  · exact h1
  · rw [List.mem_singleton.mp hd]; exact h2
theorem fit_L1 {c : Nat} (h : c < 0x110000) : Fit (.str (L1 c)) 0 12 := (Fit.str (n := 1) (Nat.le_refl _) fun x hx => by
  have : x = c := by simpa [L1] using hx
  omega).mono (Nat.le_refl _) (by decide)
theorem fit_N {ns : List (Nat × Nat)} (h : NmOk ns) : Fit (dN ns) 2 17000 := (Fit.tuple (k := 1) (n := 31) fun d hd => by
  obtain ⟨kv, hk, rfl⟩ := List.mem_map.mp hd
  obtain ⟨n, hn, rfl⟩ := List.mem_map.mp hk
  obtain ⟨b1, b2, b3⟩ := h.2.2.1 n hn
  exact fit_pair (fit_L1 (by omega)) (fit_nat (by omega))).mono (Nat.le_refl _) (by
  rw [List.length_map, List.length_map]
  have := h.2.1
  omega)
theorem fit_C {cs : List (Nat × Nat)} (h : ClOk cs) : Fit (dC cs) 2 17000 := (Fit.tuple (k := 1) (n := 31) fun d hd => by
  obtain ⟨kv, hk, rfl⟩ := List.mem_map.mp hd
  obtain ⟨n, hn, rfl⟩ := List.mem_map.mp hk
  obtain ⟨b1, b2, b3⟩ := h.2.1 n hn
  exact fit_pair (fit_nat (by omega)) (fit_nat (by omega))).mono (Nat.le_refl _) (by
  rw [List.length_map, List.length_map]
  have := h.1
  omega)
theorem eqv_pairs {g : Nat × Nat → Key × V} (hg : ∀ a b, PyData.eqv (pD (g a)) (pD (g b)) = decide (a = b)) : ∀ xs ys : List (Nat × Nat), PyData.eqvAll ((xs.map g).map pD) ((ys.map g).map pD) = decide (xs = ys)
  | [], [] => by simp [PyData.eqvAll]
  | [], _ :: _ => by simp [PyData.eqvAll]
  | _ :: _, [] => by simp [PyData.eqvAll]
  | x :: xs, y :: ys => by
    show (PyData.eqv (pD (g x)) (pD (g y)) && PyData.eqvAll ((xs.map g).map pD) ((ys.map g).map pD)) = _
    rw [hg, eqv_pairs hg xs ys, Bool.eq_iff_iff]
    simp
theorem eqv_N (xs ys : List (Nat × Nat)) : PyData.eqv (dN xs) (dN ys) = decide (xs = ys) := by
  unfold dN
  rw [PyData.eqv]
  refine eqv_pairs (fun a b => ?_) xs ys
  show PyData.eqv (.tuple [.str (L1 a.1), .int a.2]) (.tuple [.str (L1 b.1), .int b.2]) = _
  rw [PyData.eqv, PyData.eqvAll, PyData.eqvAll, PyData.eqvAll, PyData.eqv, PyData.eqv, Bool.eq_iff_iff]
  obtain ⟨a1, a2⟩ := a
  obtain ⟨b1, b2⟩ := b
  simp only [Bool.and_true, Bool.and_eq_true, beq_iff_eq, decide_eq_true_eq, Prod.mk.injEq]
  constructor
  · rintro ⟨h1, h2⟩
    exact ⟨L1_inj h1, by omega⟩
  · rintro ⟨rfl, rfl⟩
    exact ⟨rfl, rfl⟩
theorem eqv_C (xs ys : List (Nat × Nat)) : PyData.eqv (dC xs) (dC ys) = decide (xs = ys) := by
  unfold dC
  rw [PyData.eqv]
  refine eqv_pairs (fun a b => ?_) xs ys
  show PyData.eqv (.tuple [.int a.1, .int a.2]) (.tuple [.int b.1, .int b.2]) = _
  rw [PyData.eqv, PyData.eqvAll, PyData.eqvAll, PyData.eqvAll, PyData.eqv, PyData.eqv, Bool.eq_iff_iff]
  obtain ⟨a1, a2⟩ := a
  obtain ⟨b1, b2⟩ := b
  simp only [Bool.and_true, Bool.and_eq_true, beq_iff_eq, decide_eq_true_eq, Prod.mk.injEq]
  constructor
  · rintro ⟨h1, h2⟩
    omega
  · rintro ⟨rfl, rfl⟩
    exact ⟨rfl, rfl⟩
theorem dp_N {H : Hp} {a : Addr} {ns : List (Nat × Nat)} (h : PrsAt K H a (ns.map nk)) : Dp K H (.ref a) (dN ns) := h.dp (intV_n ns)
theorem dp_C {H : Hp} {a : Addr} {cs : List (Nat × Nat)} (h : PrsAt K H a (cs.map ck)) : Dp K H (.ref a) (dC cs) := h.dp (intV_c cs)
/-! ### == -/
def spEq (K : PySem.W.Frag) (C : Addr) : Sp := fun vs H Q _ => ∃ (r : Addr) (y : V) (ns cs : List (Nat × Nat)), vs = [.ref r, y] ∧ StA K C H r ns cs ∧ ((∃ t, TyOf K H y t ∧ PySem.W.kitOne K t (.ref C) = some false ∧ Q (.bl false) H) ∨
  ∃ (b : Addr) (ns' cs' : List (Nat × Nat)), y = .ref b ∧ StA K C H b ns' cs' ∧ Q (.bl (decide (ns = ns') && decide (cs = cs'))) H)
theorem sc_eq : FnScope ["self", "other"] ["self", "other"] (defScope (inClass (top 23) 1)) := ⟨rfl, rfl, rfl, by decide +kernel, rfl, by decide +kernel, by decide +kernel⟩
theorem ok_eq {f C fi : Addr} {fd : FuncData} {q : Str} (T : Tx mg) (W : StB K C) (L : StM K mg C fi) (F : FM K "__eq__" q (inClass (top 23) 1) f fd) : FnOk P w K mg base CX0 1 f fd ["self", "other"] (spEq K C) := by
  refine F.ok sc_eq (fun vs H Q E h => ?_) (fun cdv A outer s H vs Q E hr h => ?_)
  · obtain ⟨_, _, _, _, rfl, _⟩ := h
    rfl
  · obtain ⟨r, y, ns, cs, rfl, ⟨dx, an, ac, dp, da, hr0, hn, hc, hp, ha, okn, okc⟩, hy⟩ := h
    have nd := sc_eq.nd
    obtain ⟨fn, fc, fp, fa, fl⟩ := StA.fa W hr0
    refine ⟨_, (pss_one (ps_ret (pe_and (pe_callB call_isi (by rfl) T.b_isinstance (by decide +kernel) (pa_cons (pv 1) (pa_cons (pe_glob (v := .ref C) rfl L.g rfl) pa_nil))) (pe_and (pe_cmpR (op_eqD hr.units) (Ob.pe_fldK (K := K) rfl (pv 0) rfl) (Ob.pe_fldK (K := K) rfl (pv 1) rfl) (nomark _)) (pe_one (pe_cmpR (op_eqD hr.units) (Ob.pe_fldK (K := K) rfl (pv 0) rfl) (Ob.pe_fldK (K := K) rfl (pv 1) rfl) (nomark _))))))), ?_⟩
    walk_at "rd"
    rcases hy with ⟨t, ty, kt, k⟩ | ⟨b, ns', cs', rfl, ⟨dy, an', ac', dp', da', hb, hn', hc', hp', ha', okn', okc'⟩, k⟩
    · exact ⟨_, _, t, .ref C, false, rfl, .own C, .base ty, kt, false, rfl, by rw [if_neg (by decide)]; exact k⟩
    · obtain ⟨gn, gc, gp, ga, gl⟩ := StA.fa W hb
      have kit : PySem.W.kitOne K (.ref C) (.ref C) = some true := by unfold PySem.W.kitOne; rw [if_pos (by exact beq_self_eq_true _)]
      refine ⟨_, _, .ref C, .ref C, true, rfl, .own C, .base (.ins hb L.own.cl L.own.ha L.own.hn L.own.ht L.own.hm), kit, true, rfl, ?_⟩
      rw [if_pos rfl]
      refine ⟨_, fn, b, rfl, _, gn, rEqD_ (fit_N okn) (fit_N okn') (by decide) (by decide) (dp_N hn) (dp_N hn') ⟨_, rfl, ?_⟩⟩
      rw [eqv_N]
      by_cases c : ns = ns'
      · rw [decide_eq_true c] at k ⊢
        rw [if_pos rfl]
        refine ⟨_, fc, b, rfl, _, gc, rEqD_ (fit_C okc) (fit_C okc') (by decide) (by decide) (dp_C hc) (dp_C hc') ?_⟩
        rw [eqv_C]
        exact k
      · rw [decide_eq_false c] at k ⊢
        rw [if_neg (by decide)]
        exact k
/-! ### text -/
def spText (K : PySem.W.Frag) (C : Addr) : Sp := fun vs H Q _ => ∃ (r : Addr) (ns cs : List (Nat × Nat)), vs = [.ref r] ∧ StA K C H r ns cs ∧ ∀ H', Same H H' → Q (.str (storeT ns cs)) H'
def txP (H : Hp) (g : Nat × Nat → Str) (ns : List (Nat × Nat)) (D : Addr) (j : Nat) (H' : Hp) : Prop := Same H H' ∧ H' D = some (.lst (((ns.take j).map g).map V.str))
theorem txP_step {H : Hp} {g : Nat × Nat → Str} {ns : List (Nat × Nat)} {D : Addr} {j : Nat} {H' : Hp} (hl : ns.length ≤ 500) (h : txP H g ns D j H') (hD : H D = none) {n : Nat × Nat} (hn : ns[j]? = some n) (z : Str) (ez : z = g n) :
    ∃ acc, H' D = some (.lst acc) ∧ acc.length < sizeLine ∧ txP H g ns D (j + 1) (upd H' D (.lst (acc ++ [V.str z]))) := by
  obtain ⟨hs, hL⟩ := h
  have zl : (1000000 : Nat) ≤ sizeLine := line_big
  refine ⟨_, hL, ?_, fun c o e => ?_, ?_⟩
  · rw [List.length_map, List.length_map]
    have h2 : (List.take j ns).length ≤ ns.length := List.length_take_le' _ _
    omega
  · rw [upd_ne (ne_of_none e hD)]; exact hs c o e
  · rw [upd_same, List.take_succ, hn, List.map_append, List.map_append, ez]; rfl
theorem sc_tx : FnScope ["self", "names", "cells", "letter", "place", "arrow"] ["self"] (defScope (inClass (top 23) 2)) := ⟨rfl, rfl, rfl, by decide +kernel, rfl, by decide +kernel, by decide +kernel⟩
theorem ok_tx {f C : Addr} {fd : FuncData} {q : Str} (T : Tx mg) (W : StB K C) (F : FM K "text" q (inClass (top 23) 2) f fd) : FnOk P w K mg base CX0 1 f fd ["self"] (spText K C) := by
  refine F.ok sc_tx (fun vs H Q E h => ?_) (fun cdv A outer s H vs Q E hr h => ?_)
  · obtain ⟨_, _, _, rfl, _⟩ := h
    rfl
  · obtain ⟨r, ns, cs, rfl, ⟨dx, an, ac, dp, da, hr0, hn, hc, hp, ha, okn, okc⟩, k⟩ := h
    have nd := sc_tx.nd
    obtain ⟨fn, fc, fp, fa, fl⟩ := StA.fa W hr0
    refine ⟨_, (pss_cons (ps_set (i := 1) nd rfl (Or.inl rfl) (pe_join pe_str (pe_lc (own := [("letter", 3), ("place", 4)]) rfl nd (pi_tup (Ob.pe_fldK (K := K) rfl (pv 0) rfl)) (blkOk_by (N := ["self", "names", "cells", "letter", "place", "arrow"]) (sc := defScope (inClass (top 23) 2)) (by decide +kernel)) (fun _ _ _ _ _ => (pg_tupK (K := K) (n := 2) rfl rfl (pgs_cons (pg_name (i := 3) nd rfl (Or.inl rfl) (hf := Or.inr rfl)) (pgs_cons (pg_name (i := 4) nd rfl (Or.inl rfl) (hf := Or.inr rfl)) pgs_nil)) rfl rfl)) (fun _ _ _ _ _ => pts_nil) (fun _ _ _ _ _ => (pe_joined (PJ.cons (pe_fmt (pv 3)) (PJ.cons (pe_str) (PJ.cons (pe_fmt (pv 4)) PJ.nil))))))))
        (pss_cons (ps_set (i := 2) nd rfl (Or.inl rfl) (pe_join pe_str (pe_lc (own := [("place", 4), ("arrow", 5)]) rfl nd (pi_tup (Ob.pe_fldK (K := K) rfl (pv 0) rfl)) (blkOk_by (N := ["self", "names", "cells", "letter", "place", "arrow"]) (sc := defScope (inClass (top 23) 2)) (by decide +kernel)) (fun _ _ _ _ _ => (pg_tupK (K := K) (n := 2) rfl rfl (pgs_cons (pg_name (i := 4) nd rfl (Or.inl rfl) (hf := Or.inr rfl)) (pgs_cons (pg_name (i := 5) nd rfl (Or.inl rfl) (hf := Or.inr rfl)) pgs_nil)) rfl rfl)) (fun _ _ _ _ _ => pts_nil) (fun _ _ _ _ _ => (pe_joined (PJ.cons (pe_fmt (pv 4)) (PJ.cons (pe_str) (PJ.cons (pe_fmt (pv 5)) PJ.nil))))))))
        (pss_one (ps_ret (pe_op op_add_str (pe_op op_add_str (pv 1) pe_str) (pe_ifExp (pt_cmpR op_ne (pv 2) pe_str (nomark _)) (pv 2) pe_str)))))), ?_⟩
    refine sq fun U hU => ?_
    walk_at "rd"
    obtain ⟨xs, pl, prs⟩ := hn
    have hl := prs.len
    rw [List.length_map] at hl
    have zl : (1000000 : Nat) ≤ sizeLine := line_big
    have o4 : ns.length ≤ 500 := by have := okn.2.1; omega
    refine ⟨⟨_, rfl⟩, _, fn, an, rfl, ⟨_, pl.sqt⟩, lc_t (xs := xs) (txP H nameW ns) fun D hD => ⟨⟨same_new hD, upd_same⟩, fun j H6 _ hP => sqt_up hP.1 pl.sqt, ?_, ?_⟩⟩
    · rintro j y H6 hy hP
      obtain ⟨kv, b, hkv, rfl, eb⟩ := (prs.up hP.1).atV hy
      obtain ⟨n, hn, rfl⟩ := map_at hkv
      obtain ⟨b1, b2, b3⟩ := okn.2.2.1 n (List.mem_of_getElem? hn)
      have eb : SqT K H6 b [.str (L1 n.1), .int n.2] := eb
      unfold Lturn
      walk_at "rd"
      refine ⟨_, eb, rfl, _, _, rfl, _, _, rfl, rfl, ?_⟩
      have l1 := nlen b3
      have e0 : (Str.empty ++ L1 n.1) = L1 n.1 := TL.ext_tl (by rw [TL.tl_append]; rfl)
      have e1 : (L1 n.1).length = 1 := rfl
      have e2 : (Str.ofString "=").length = 1 := by decide
      have en : Str.ofString (toString (n.2 : Int)) = numT n.2 := rfl
      exact .inl ⟨_, rfl, by omega, by rw [e0]; omega, by rw [e0, Str.length_append]; omega, .inr ⟨_, rfl, lg (by omega), by rw [e0, Str.length_append, Str.length_append, en]; omega, txP_step o4 hP hD hn _ (by rw [e0]; rfl)⟩⟩
    · rintro H6 ⟨hs, hL⟩
      rw [hl, List.take_length] at hL
      have es : (Str.ofString " ").length = 1 := by decide
      refine ⟨D, rfl, _, .inl (SqL.of hL), ?_, hU _ _ ?_⟩
      · have h2 := sum_le (fun s : Str => s.length) 6 (ns.map nameW) (fun s hs' => by
          obtain ⟨n, hn, rfl⟩ := List.mem_map.mp hs'
          exact nameW_len (okn.2.2.1 n hn).2.2)
        rw [List.length_map] at h2
        rw [es, List.length_map]
        omega
      clear hU
      refine sq fun U hU => ?_
      walk_at "rd"
      obtain ⟨xs2, pl2, prs2⟩ := hc.up hs
      have hl2 := prs2.len
      rw [List.length_map] at hl2
      have o5 := okc.1
      refine ⟨⟨_, rfl⟩, _, (StA.fa W (hs _ _ hr0)).2.1, ac, rfl, ⟨_, pl2.sqt⟩, lc_t (xs := xs2) (txP H6 cellW cs) fun D2 hD2 => ⟨⟨same_new hD2, upd_same⟩, fun j H8 _ hP => sqt_up hP.1 pl2.sqt, ?_, ?_⟩⟩
      · rintro j y H8 hy hP
        obtain ⟨kv, b, hkv, rfl, eb⟩ := (prs2.up hP.1).atV hy
        obtain ⟨n, hn, rfl⟩ := map_at hkv
        obtain ⟨b1, b2, b3⟩ := okc.2.1 n (List.mem_of_getElem? hn)
        have eb : SqT K H8 b [.int n.1, .int n.2] := eb
        unfold Lturn
        walk_at "rd"
        refine ⟨_, eb, rfl, _, _, rfl, _, _, rfl, rfl, ?_⟩
        have l1 := nlen b3
        have l0 := nlen b2
        have e2 : (Str.ofString ">").length = 1 := by decide
        have en : Str.ofString (toString (n.2 : Int)) = numT n.2 := rfl
        have en1 : Str.ofString (toString (n.1 : Int)) = numT n.1 := rfl
        have e0 : (Str.empty ++ numT n.1) = numT n.1 := TL.ext_tl (by rw [TL.tl_append]; rfl)
        exact .inr ⟨_, rfl, lg (by omega), by rw [en1, e0]; omega, by rw [en1, e0, Str.length_append]; omega, .inr ⟨_, rfl, lg (by omega), by rw [en1, e0, Str.length_append, Str.length_append, en]; omega, txP_step o5 hP hD2 hn _ (by rw [en1, e0]; rfl)⟩⟩
      · rintro H8 ⟨hs8, hL8⟩
        rw [hl2, List.take_length] at hL8
        refine ⟨D2, rfl, _, .inl (SqL.of hL8), ?_, hU _ _ ?_⟩
        · have h2 := sum_le (fun s : Str => s.length) 9 (cs.map cellW) (fun s hs' => by
            obtain ⟨n, hn, rfl⟩ := List.mem_map.mp hs'
            exact cellW_len (okc.2.1 n hn).2.1 (okc.2.1 n hn).2.2)
          rw [List.length_map] at h2
          rw [es, List.length_map]
          omega
        clear hU
        walk_at "rd"
        have m1 := namesT_len okn
        have m2 := cellsT_len okc
        have e3 : (Str.ofString " | ").length = 3 := by decide
        have e4 : (Str.ofString "none").length = 4 := by decide
        have e5 : (Txt.join (Str.ofString " ") (ns.map nameW)).length ≤ 28 := m1
        have kk := k _ (fun c o e => hs8 _ _ (hs _ _ e))
        refine ⟨by omega, ?_⟩
        by_cases ce : cs = []
        · subst ce
          rw [if_neg (by decide +kernel)]
          exact ⟨by rw [Str.length_append]; omega, kk⟩
        · rw [if_pos (cells_empty ce okc)]
          unfold storeT cellsT at kk
          rw [if_neg ce] at kk
          exact ⟨by rw [Str.length_append]; have := m2.2; omega, kk⟩
end
end K40S

set_option Elab.async false
set_option linter.all false
set_option maxRecDepth 100000
set_option maxHeartbeats 4000000
/-! sorted of a tuple of pairs; set of a list of ints -/
namespace So
open PySem PySem.Spec PyProof.Rows L2 Rd Dt Pk Ln En Sx Sy
section
variable {P : Program} {w : World} {A : Around} {E : Value → Shared → Prop} {s : Shared}
/-- what stands behind a collected row -/
abbrev gath (h : Heap) (vs : List Value) : Heap := (h.push (seqObj "list" #[] 0)).update h.objs.size (Obj.mapSeq (· ++ vs.toArray))
theorem gath_tuple {l : Addr} {vs : List Value} {Q : List Value → Shared → Prop} (hl : s.heap.IsTuple l vs.toArray) (hz : vs.length ≤ sizeLine)
    (h : Q vs { s with heap := gath s.heap vs }) : wpAny (model P w) A (collect (.ref l)) Q E s := by
  have ⟨o, ho, hc, n, hd⟩ := hl
  have old : (s.heap.push (seqObj "list" #[] 0)).get? l = some o := Heap.get?_push_of_some _ ho
  have new : (s.heap.push (seqObj "list" #[] 0)).get? s.heap.objs.size = some (seqObj "list" #[] 0) := Heap.get?_push_size _ rfl
  unfold collect
  refine wpAny_bind (wpAny_runValue (codeAny_builtin entry_proto_collect' ?_))
  show wpAny _ _ (do again (.builtin "list.__iadd__" ⟨[← newList [], .ref l], []⟩)) _ _ s
  refine wpAny_bind (wpAny_newList (wpAny_pure ⟨Code.quiet_builtin _ (by decide +kernel), codeAny_builtin entry_list_iadd' ?_⟩))
  show wpAny _ _ (Builtin.List.listExtendWith (.ref s.heap.objs.size) (.ref l) (.ref s.heap.objs.size)) _ _ { s with heap := s.heap.push (seqObj "list" #[] 0) }
  unfold Builtin.List.listExtendWith
  refine wpAny_bind (wpAny_typeOf (T := "tuple") ⟨o, old, hc⟩ ?_)
  have tt : (Value.type "tuple" == Value.type "tuple") = true := by rfl
  rw [if_pos (by rw [tt]; simp)]
  refine wpAny_bind (listItems_at old hd (wpAny_bind (listItems_at (xs := #[]) (n := 0) new rfl ?_)))
  rw [if_neg (by simp)]
  refine wpAny_bind (listUpdate_at (xs := #[]) (n := 0) new rfl ?_ (Nat.zero_le _) (by show (#[] ++ vs.toArray).size ≤ sizeLine + 1; simp only [Array.size_append, List.size_toArray, List.length_nil]; omega))
  refine wpAny_pure ?_
  show wpAny (model P w) A (do
      let o ← load s.heap.objs.size
      match o.data with
      | .seq xs _ => pure xs.toList
      | _ => unsupported "internal:collect") Q E { s with heap := gath s.heap vs }
  refine wpAny_bind (wpAny_load (get?_update_seq new _) ?_)
  show wpAny _ _ (pure ((#[] : Array Value) ++ vs.toArray).toList) Q E _
  have e : ((#[] : Array Value) ++ vs.toArray).toList = vs := by simp
  rw [e]
  exact wpAny_pure h
/-- sorted(t): the collected row is sorted in place -/
theorem sortT {l : Addr} {vs : List Value} {ltv : Value → Value → Bool} {Q : Value → Shared → Prop} (O : SrtO.Swo ltv) (hl : s.heap.IsTuple l vs.toArray) (hz : vs.length ≤ sizeLine)
    (hS : 2 ≤ vs.length → ∀ (h1 : Heap) (a : Addr), h1.get? a = some (seqObj "list" vs.toArray 0) → (∀ b o, s.heap.get? b = some o → b ≠ a ∧ h1.get? b = some o) → SrtO.SortableO P w A.in1.in1 { s with heap := h1 } a vs ltv)
    (h : ∀ out : List Value, SrtO.Srtd ltv out → SrtO.Stb ltv out vs → Q (.ref (s.heap.objs.size + 1)) { s with heap := sortedAll s.heap vs out.toArray }) :
    wpAny (model P w) A (call (.builtin "sorted") [.ref l]) Q E s := by
  refine Calls.call_function_entry kind_sorted plain_sorted entry_sorted (args_sorted1 _) ?_
  unfold Builtin.«sorted»
  refine wpAny_bind (m := checkCount "sorted" 1 1 _) (wpAny_pure (wpAny_bind (gath_tuple hl hz (wpAny_bind (wpAny_newList ?_ hz)))))
  have sz : (gath s.heap vs).objs.size = s.heap.objs.size + 1 := by rw [Heap.size_update]; exact Heap.size_push ..
  have mine : ((gath s.heap vs).push (seqObj "list" vs.toArray 0)).get? (s.heap.objs.size + 1) = some (seqObj "list" vs.toArray 0) := by
    rw [← sz]
    exact Heap.get?_push_size _ rfl
  have rest : ∀ b o, s.heap.get? b = some o → b ≠ s.heap.objs.size + 1 ∧ ((gath s.heap vs).push (seqObj "list" vs.toArray 0)).get? b = some o := fun b o q => by
    have lt := Heap.lt_size q
    refine ⟨Nat.ne_of_lt (Nat.lt_succ_of_lt lt), Heap.get?_push_of_some _ ?_⟩
    rw [Heap.get?_update_ne _ _ _ _ (Nat.ne_of_lt lt)]
    exact Heap.get?_push_of_some _ q
  show wpAny _ _ _ _ _ { s with heap := (gath s.heap vs).push (seqObj "list" vs.toArray 0) }
  rw [sz]
  refine wpAny_bind (wpAny_holding (wpAny_call_entry slot_list_sort ⟨_, mine, rfl⟩ entry_list_sort (SrtO.list_sort_ord O mine hz (fun z => hS z _ _ mine rest) fun out a b => ⟨_, rfl, ?_⟩) (args_list_sort _)))
  exact wpAny_pure ⟨_, rfl, h out a b⟩
end
/-- sorted(t), t a tuple of pairs of ints of any length -/
def rSortedPT (K : PySem.W.Frag) : List V → Hp → VK → Prop := fun vs H Q => ∃ (a : Addr) (xs : List V) (k : V → Int × Int), vs = [V.ref a] ∧ SqT K H a xs ∧ (∀ x ∈ xs, ∃ t, x = V.ref t ∧ SqT K H t [.int (k x).1, .int (k x).2]) ∧
  ∀ ys p, SrtO.Srtd (ltP k) ys → SrtO.Stb (ltP k) ys xs → H p = none → Q (.ref p) (upd H p (.lst ys))
section
variable {X : Cx} {K : PySem.W.Frag}
theorem cr_sortedPT (hK : X.K = K) : CallR X (.builtin "sorted") (rSortedPT K) := by
  subst hK
  intro pins s σ H vs us Q I r h
  obtain ⟨a, xs, k, rfl, hs, hx, q⟩ := h
  obtain ⟨its, rv, hl, hz⟩ := I.tuple hs
  obtain ⟨u, rfl, ru⟩ := vals1 r
  cases ru
  obtain ⟨e1, e2⟩ := refs_back rv fun x m => by
    obtain ⟨t, e, _⟩ := hx x m
    exact ⟨t, e⟩
  have hp : ∀ v ∈ its, Srt.IsPair s.heap v (k (backV v)).1 (k (backV v)).2 := fun v hv => by
    obtain ⟨t, rfl⟩ := e2 v hv
    have hm : V.ref t ∈ xs := by rw [e1]; exact List.mem_map.mpr ⟨_, hv, rfl⟩
    obtain ⟨t', e, ht⟩ := hx _ hm
    cases e
    obtain ⟨us2, r2, ⟨o, ho, hc, n, hd⟩, _⟩ := I.tuple ht
    obtain ⟨u1, u2, rfl, ⟨t1, rfl⟩, ⟨t2, rfl⟩⟩ := vals2 r2
    exact ⟨t, o, t1, t2, n, rfl, ho, hc, hd⟩
  refine sortT (SrtO.swo_lex fun u => k (backV u)) hl (by rw [← rv.length]; exact hz) (fun h2 h1 b hb kk => ?_) fun out ho hb => ?_
  · refine SrtO.pairs_sortableO (s := { s with heap := h1 }) (by omega) (fun v hv => (hp v hv).keeps fun b o e _ => (kk b o e).2) fun o e => ?_
    have e' : some o = some (seqObj "list" its.toArray 0) := e.symm.trans hb
    cases e'
    exact fun c => absurd (Value.type.inj c) (by decide)
  · have h3 : ∀ u ∈ out, ∃ a, u = Value.ref a := fun u hu => e2 u (hb.perm.mem_iff.mp hu)
    obtain ⟨n, hn⟩ := PyProof.Rows.sortedAll_at s.heap its out.toArray
    have hs2 : SrtO.Stb (ltP k) (out.map backV) xs := by
      rw [e1]
      exact SrtO.Stb.map (ltP_swo k) backV hb
    refine ⟨.ref _, upd H (s.heap.objs.size + 1) (.lst (out.map backV)), I.laid (t' := s.toks) (fun _ _ => PyProof.Rows.sortedAll_old) (Nat.le_succ _) ⟨?_, out, n, vals_back h3, hn⟩, rfl, q _ _ (SrtO.srtd_map ho) hs2 (I.hok.fresh (Nat.le_succ _))⟩
    rw [hs2.len]
    exact hz
end
/-! ### set(l) of a list of ints -/
section
variable {P : Program} {w : World} {A : Around} {E : Value → Shared → Prop} {s : Shared}
/-- the empty set as it is made -/
abbrev emp (w : World) : Obj := { cls := .type "set", dict := none, data := .set #[] 0 (.fresh 0 0 (!w.params.followText "set-order")) }
set_option maxHeartbeats 8000000 in
theorem setL {l : Addr} {items : Array Value} (ns : List Int) {Q : Value → Shared → Prop} (hh : A.handled = none) (hl : s.heap.IsList l items) (hit : IntsAre items.toList ns) (hb : ns.length + 1 < scanBound)
    (h : ∀ (h' : Heap) (tk c : Nat), SetR w h' s.heap.objs.size (fun j => decide (j ∈ ns)) c → c ≤ ns.length → (∀ b o, s.heap.get? b = some o → h'.get? b = some o) → Q (.ref s.heap.objs.size) { s with heap := h', toks := tk }) :
    wpAny (model P w) A (call (.type "set") [.ref l]) Q E s := by
  have sz : items.size = ns.length := by rw [← Array.length_toList]; exact IntsAre.length hit
  obtain ⟨c, tl, hmro⟩ := F.called_set.mro
  have f1 := F.called_set.made
  have f2 := F.called_set.sub
  have f3 := F.called_set.notType
  have f4 := F.called_set.canCreate
  have f5 := F.typeCall_set_1 (.ref l)
  refine wpAny_call (codeAny_of_tree ?_)
  show wpAny _ _ (callAny (.type "set") _) _ _ _
  refine wpAny_pure ⟨Code.quiet_builtin _ (by decide +kernel), codeAny_builtin F.entry_type_call ?_⟩
  rw [Around.under_plain (weight_type_call_type "set" [.ref l] []) rfl]
  repeat (any_goals (first | assumption | wp_step))
  refine codeAny_mono (code_set_led1 (.ref l) (E := E) (Q₁ := fun x s1 => x = .ref s.heap.objs.size ∧ s1 = { s with heap := s.heap.push (emp w) }) ⟨rfl, rfl⟩) fun r s1 hr => ?_
  cases r with
  | error e => exact hr
  | ok fl =>
    cases fl with
    | ret x =>
      obtain ⟨rfl, rfl⟩ := hr
      have mine : (s.heap.push (emp w)).get? s.heap.objs.size = some (emp w) := Heap.get?_push_size _ rfl
      have hT : Shared.TypeIs { s with heap := s.heap.push (emp w) } (.ref s.heap.objs.size) "set" := ⟨_, mine, rfl⟩
      have f6 := F.called_set.init.lookup
      have f7 := F.called_set.init.bind (.ref s.heap.objs.size)
      repeat (any_goals (first | assumption | wp_step))
      refine codeAny_mono (codeAny_call_builtin (R := wants (fun r s2 => r = .none ∧ ∃ h' tk c, s2 = { s with heap := h', toks := tk } ∧ SetR w h' s.heap.objs.size (fun j => decide (j ∈ ns)) c ∧ c ≤ ns.length ∧
          ∀ b o, s.heap.get? b = some o → h'.get? b = some o) E) F.called_set.init.plain F.entry_set_init (check_set_init_1 hT ?_)) fun r2 s2 hr2 => ?_
      · obtain ⟨⟨oc, od, oD, os⟩, hol, hcl, nl, hdl⟩ := hl
        simp only at hcl hdl
        subst hcl; subst hdl
        have old : (s.heap.push (emp w)).get? l = some { cls := .type "list", dict := od, data := .seq items nl, slots := os } := Heap.get?_push_of_some _ hol
        have g1 := F.sub_list_set
        have g2 := F.sub_list_frozenset
        have g3 : (Value.type "list" == Value.type "dict") = false := by decide
        have isl : (s.heap.push (emp w)).IsList l items := ⟨_, old, rfl, nl, rfl⟩
        unfold Builtin.«set.__init__» noKeywords Builtin.Frozenset.updateFrom
        generalize hPI : pyIter = PI
        wp_walk
        subst hPI
        refine wpAny_pyIter_list isl (wpAny_bind (wpAny_runValue ?_))
        have lt := Heap.lt_size hol
        have one : (s.heap.push (emp w)).objs.size = s.heap.objs.size + 1 := Heap.size_push ..
        have h3 : A.in1.in1.in1.handled = none := by simp [hh]
        have n1 : l ≠ (s.heap.push (emp w)).objs.size := by rw [one]; exact Nat.ne_of_lt (Nat.lt_succ_of_lt lt)
        have n2 : s.heap.objs.size ∉ [(s.heap.push (emp w)).objs.size, l] := by
          rw [one]
          intro z
          rcases List.mem_cons.mp z with z | z
          · exact absurd z (Nat.ne_of_lt (Nat.lt_succ_self _))
          · exact absurd (List.mem_singleton.mp z).symm (Nat.ne_of_lt lt)
        refine set_update_ints ((Walks.list h3 _ l n1 items).toS) s.heap.objs.size n2 ns sz hb (fun i v hv => ?_) (items.size - 0) 0 _ (by omega) (Nat.zero_le _)
          ⟨⟨_, Heap.get?_push_size _ rfl, rfl, rfl⟩, isl.push _⟩ ⟨0, Nat.le_refl 0, setR_new_at (Heap.get?_push_of_some _ mine)⟩ fun s' c' hm hc' hS' => ?_
        · have hi : i < ns.length := by rw [← sz]; exact (Array.getElem?_eq_some_iff.mp hv).1
          obtain ⟨t, e⟩ := PyProof.Rows.IntsAre.int_at hit i v (by rw [Array.getElem?_toList]; exact hv)
          refine ⟨ns[i], t, List.getElem?_eq_getElem hi, ?_⟩
          rw [e, List.getD_eq_getElem?_getD, List.getElem?_eq_getElem hi] <;> rfl
        · obtain ⟨h', g', d', tk', os'⟩ := s'
          obtain rfl : g' = s.gens := hm.gens
          obtain rfl : d' = s.drawn := hm.drawn
          obtain rfl : os' = s.os := hm.os
          show wpAny _ _ _ _ _ _
          refine wpAny_pure ?_
          show wpAny _ _ (ret Value.none) _ _ _
          rw [sz] at hc'
          refine wpAny_pure ⟨rfl, h', tk', c', rfl, hS', hc', fun b o e => ?_⟩
          have lb := Heap.lt_size e
          refine hm.heap b o (fun z => ?_) (Heap.get?_push_of_some _ (Heap.get?_push_of_some _ e))
          rcases List.mem_cons.mp z with z | z
          · exact absurd z (Nat.ne_of_lt lb)
          · rw [one] at z
            exact absurd (List.mem_singleton.mp z) (Nat.ne_of_lt (Nat.lt_succ_of_lt lb))
      · cases r2 with
        | error e => exact hr2
        | ok fl2 =>
          cases fl2 with
          | ret r =>
            obtain ⟨rfl, h', tk, c', rfl, hS', hc', hk'⟩ := hr2
            repeat (any_goals (first | assumption | wp_step))
            exact h _ _ _ hS' hc' hk'
          | _ => exact hr2.elim
    | _ => exact hr.elim
end
def rSetLI (w : World) (K : PySem.W.Frag) : List V → Hp → VK → Prop := fun vs H Q => ∃ (p : Addr) (ns : List Int), vs = [.ref p] ∧ SqL K H p (ns.map V.int) ∧ ns.length ≤ 1000 ∧
  ∀ (a : Addr) (c : Nat), H a = none → c ≤ ns.length → Q (.ref a) (upd H a (SetO w a (fun j => decide (j ∈ ns)) c))
section
variable {X : Cx} {K : PySem.W.Frag} {w : World}
/-- set(l) of ints -/
theorem call_setL (hK : X.K = K) (hw : X.w = w) (hc : X.calm = true) : CallR X (.type "set") (rSetLI w K) := by
  subst hK hw
  intro pins s σ H xs us Q I r h
  obtain ⟨p, ns, rfl, hq, hz, q⟩ := h
  obtain ⟨u, rfl, rx⟩ := vals1 r
  cases rx
  obtain ⟨its, rv, hl, _⟩ := I.list hq
  refine setL ns (I.ok.hd hc) hl.isList (by simpa using rv.ints) (by unfold scanBound; omega) fun h' tk c hS hle kp => ?_
  exact ⟨.ref s.heap.objs.size, upd H s.heap.objs.size (SetO X.w s.heap.objs.size (fun j => decide (j ∈ ns)) c), I.laid (t' := tk) kp (Nat.le_refl _) (setO_new hS), rfl, q _ _ (I.hok.fresh (Nat.le_refl _)) hle⟩
end
/-! ### lists of pairs, grown -/
section
variable {K : PySem.W.Frag}
theorem lst_no2 {l : List V} (xs : List V) : HO.lst l ≠ .tup xs ∧ ∀ ob, HO.lst l ≠ .frz ob (.tup xs) := ⟨fun z => (by cases z), fun _ z => (by cases z)⟩
def pairP (K : PySem.W.Frag) (H : Hp) (kvs : List (Key × V)) (D : Addr) (j : Nat) (H' : Hp) : Prop := Same H H' ∧ ∃ xs, H' D = some (.lst xs) ∧ Prs K H' xs (kvs.take j)
theorem pairP_0 {H : Hp} {kvs : List (Key × V)} {D : Addr} (hD : H D = none) : pairP K H kvs D 0 (upd H D (.lst [])) := ⟨same_new hD, [], upd_same, .nil⟩
theorem pairP_step {H H' : Hp} {kvs : List (Key × V)} {D N : Addr} {j : Nat} {kv : Key × V} {x y : V} (hl : kvs.length ≤ 1000) (h : pairP K H kvs D j H') (hD : H D = none) (e : kvs[j]? = some kv) (hN : H' N = none) (ex : x = kV kv.1) (ey : y = kv.2) :
    ∃ acc, (upd H' N (.tup [x, y])) D = some (.lst acc) ∧ acc.length < sizeLine ∧ pairP K H kvs D (j + 1) (upd (upd H' N (.tup [x, y])) D (.lst (acc ++ [V.ref N]))) := by
  obtain ⟨hs, xs, hL, hP⟩ := h
  subst ex ey
  have nDN : D ≠ N := ne_of_none hL hN
  have zl : (1000000 : Nat) ≤ sizeLine := line_big
  have len := hP.len
  have tl : (kvs.take j).length ≤ kvs.length := List.length_take_le' _ _
  have hL2 : (upd H' N (.tup [kV kv.1, kv.2])) D = some (.lst xs) := by rw [upd_ne nDN]; exact hL
  refine ⟨xs, hL2, by omega, fun c o q => ?_, xs ++ [V.ref N], upd_same, ?_⟩
  · rw [upd_ne (ne_of_none q hD), upd_ne (ne_of_none (hs _ _ q) hN)]
    exact hs _ _ q
  · rw [List.take_succ, e]
    have b1 : But D (upd H' N (.tup [kV kv.1, kv.2])) (upd (upd H' N (.tup [kV kv.1, kv.2])) D (.lst (xs ++ [V.ref N]))) := But.put
    refine ((hP.up (same_new hN)).but b1 hL2 lst_no2).append (.cons (SqT.of ?_) .nil)
    rw [upd_ne (Ne.symm nDN)]
    exact upd_same
/-- a list of chosen rows, grown -/
def filP (K : PySem.W.Frag) (H : Hp) (p : Key × V → Bool) (kvs : List (Key × V)) (D : Addr) (j : Nat) (H' : Hp) : Prop := Same H H' ∧ ∃ xs, H' D = some (.lst xs) ∧ Prs K H' xs ((kvs.take j).filter p)
theorem filP_0 {H : Hp} {p : Key × V → Bool} {kvs : List (Key × V)} {D : Addr} (hD : H D = none) : filP K H p kvs D 0 (upd H D (.lst [])) := ⟨same_new hD, [], upd_same, .nil⟩
theorem filP_step {H H' : Hp} {p : Key × V → Bool} {kvs : List (Key × V)} {D b : Addr} {j : Nat} {kv : Key × V} (hl : kvs.length ≤ 1000) (h : filP K H p kvs D j H') (hD : H D = none) (e : kvs[j]? = some kv) (hb : SqT K H' b [kV kv.1, kv.2]) :
    if p kv = true then ∃ acc, H' D = some (.lst acc) ∧ acc.length < sizeLine ∧ filP K H p kvs D (j + 1) (upd H' D (.lst (acc ++ [V.ref b]))) else filP K H p kvs D (j + 1) H' := by
  obtain ⟨hs, xs, hL, hP⟩ := h
  have zl : (1000000 : Nat) ≤ sizeLine := line_big
  have len := hP.len
  have tl : (kvs.take j).length ≤ kvs.length := List.length_take_le' _ _
  have fl := List.length_filter_le p (kvs.take j)
  have eq : (kvs.take (j + 1)).filter p = (kvs.take j).filter p ++ (if p kv = true then [kv] else []) := by
    rw [List.take_succ, e, List.filter_append]
    congr 1
    by_cases d : p kv = true
    · rw [if_pos d]; simp only [Option.toList_some, List.filter_cons, d, if_true, List.filter_nil]
    · rw [if_neg d]; simp only [Option.toList_some, List.filter_cons, d, if_false, List.filter_nil, Bool.false_eq_true]
  split
  · rename_i d
    have b1 : But D H' (upd H' D (.lst (xs ++ [V.ref b]))) := But.put
    refine ⟨xs, hL, by omega, fun c o q => ?_, xs ++ [V.ref b], upd_same, ?_⟩
    · rw [upd_ne (ne_of_none q hD)]
      exact hs _ _ q
    · rw [eq, if_pos d]
      have row : Prs K H' [V.ref b] [kv] := .cons hb .nil
      exact (hP.append row).but b1 hL lst_no2
  · rename_i d
    rw [filP, eq, if_neg d, List.append_nil]
    exact ⟨hs, xs, hL, hP⟩
end
/-! ### sorted of pairs of numbers, by their Prs -/
section
variable {X : Cx} {K : PySem.W.Frag}
def rSortedC (K : PySem.W.Frag) : List V → Hp → VK → Prop := fun vs H Q => ∃ (a : Addr) (cs : List (Nat × Nat)), vs = [V.ref a] ∧ PrsAt K H a (cs.map ck) ∧
  ∀ (zs : List V) (ds : List (Nat × Nat)) (p : Addr), ds.Perm cs → ds.Pairwise (fun x y => x.1 ≤ y.1) → Prs K H zs (ds.map ck) → H p = none → Q (.ref p) (upd H p (.lst zs))
theorem Prs.mem {H : Hp} : ∀ {xs : List V} {kvs : List (Key × V)}, Prs K H xs kvs → ∀ x ∈ xs, ∃ kv ∈ kvs, ∃ t, x = .ref t ∧ SqT K H t [kV kv.1, kv.2]
  | _, _, .nil, _, h => nomatch h
  | _, _, .cons (kv := kv) e h, x, hx => by
    rcases List.mem_cons.mp hx with rfl | hx
    · exact ⟨kv, List.mem_cons_self .., _, rfl, e⟩
    · obtain ⟨kv2, m, q⟩ := Prs.mem h x hx
      exact ⟨kv2, List.mem_cons_of_mem _ m, q⟩
theorem Prs.ofMap {H : Hp} (g : V → Key × V) : ∀ ys : List V, (∀ x ∈ ys, ∃ t, x = .ref t ∧ SqT K H t [kV (g x).1, (g x).2]) → Prs K H ys (ys.map g)
  | [], _ => .nil
  | y :: ys, h => by
    obtain ⟨t, rfl, e⟩ := h y (List.mem_cons_self ..)
    exact .cons e (Prs.ofMap g ys fun x hx => h x (List.mem_cons_of_mem _ hx))
theorem Prs.map_eq {H : Hp} {kk : V → Nat × Nat} : ∀ {xs : List V} {cs : List (Nat × Nat)}, Prs K H xs (cs.map ck) → (∀ t c, SqT K H t [.int (c : Nat × Nat).1, .int c.2] → kk (.ref t) = c) → xs.map kk = cs
  | _, [], .nil, _ => rfl
  | _, c :: cs, .cons e h, u => by
    rw [List.map_cons, Prs.map_eq h u, u _ c e]
open Classical in
theorem cr_sortedC (hK : X.K = K) : CallR X (.builtin "sorted") (rSortedC K) := by
  subst hK
  intro pins s σ H vs us Q I r h
  obtain ⟨a, cs, rfl, ⟨xs, pl, prs⟩, q⟩ := h
  let kk : V → Nat × Nat := fun x => if h : ∃ c : Nat × Nat, ∃ t, x = .ref t ∧ SqT X.K H t [.int c.1, .int c.2] then Classical.choose h else (0, 0)
  have uni : ∀ t (c : Nat × Nat), SqT X.K H t [.int c.1, .int c.2] → kk (.ref t) = c := fun t c e => by
    have hx : ∃ c : Nat × Nat, ∃ t', V.ref t = .ref t' ∧ SqT X.K H t' [.int c.1, .int c.2] := ⟨c, t, rfl, e⟩
    show (if h : _ then Classical.choose h else (0, 0)) = c
    rw [dif_pos hx]
    obtain ⟨t', e1, e2⟩ := Classical.choose_spec hx
    cases e1
    have := I.tuple_inj e2 e
    simp only [List.cons.injEq, V.int.injEq, and_true] at this
    exact Prod.ext (Int.ofNat.inj this.1) (Int.ofNat.inj this.2)
  have all : ∀ x ∈ xs, ∃ t, x = V.ref t ∧ SqT X.K H t [.int (kk x).1, .int (kk x).2] := fun x hx => by
    obtain ⟨kv, m, t, rfl, e⟩ := Prs.mem prs x hx
    obtain ⟨c, _, rfl⟩ := List.mem_map.mp m
    have e' : SqT X.K H t [.int c.1, .int c.2] := e
    exact ⟨t, rfl, by rw [uni t c e']; exact e'⟩
  refine cr_sortedPT rfl pins s σ H _ us Q I r ⟨a, xs, fun x => ((kk x).1, (kk x).2), rfl, pl.sqt, all, fun ys p srt stb hp => ?_⟩
  refine q ys (ys.map kk) p ?_ ?_ ?_ hp
  · have := stb.perm.map kk
    rwa [Prs.map_eq prs uni] at this
  · refine List.pairwise_map.mpr (srt.imp fun {x y} z => ?_)
    have := SrtO.lexB_no.mp z
    show (kk x).1 ≤ (kk y).1
    have e1 : ((kk x).1 : Int) ≤ (kk y).1 := by
      simp only at this
      omega
    omega
  · rw [List.map_map]
    refine Prs.ofMap _ ys fun x hx => ?_
    exact all x (stb.perm.mem_iff.mp hx)
end
end So

set_option Elab.async false
set_option linter.all false
set_option maxRecDepth 100000
set_option maxHeartbeats 4000000
namespace K40S
open PySem PySem.Spec PyProof.Rows L2 Rd Dt Dq Pk Ln En Sx Sy So
local macro_rules | `(tactic| walk_at "rd") => `(tactic| try simp only [↓Sy.tTupP_, ↓Sy.rTupP_, ↓Sy.rCatP_, ↓Sy.rSlP_, ↓Sy.rDictT_, ↓Sy.tDGet_, ↓Sy.tDGet1_, ↓Sy.tDIn_, ↓Sy.tDNotIn_, ↓Sy.tMeth_, ↓Sy.tMethKw_, ↓Sy.rSortedS_, ↓Sx.rIsT_, ↓En.tFor_enumT, ↓Sy.tFor_enumL, ↓Rv.tMakeKw_, ↓Prp.tProp_, ↓Lo.tBits_, ↓Lo.tJs_n, ↓Lo.tJs_c, ↓Lo.tFmt_, ↓Lo.gFld_, ↓Lo.tMake_, ↓Lo.rOwn_, ↓Rg.tFor_range3, ↓Rg.tLc_range3, ↓Rg.tLstC_, ↓Rg.tLc_rngV, ↓Le.rNeLE_, ↓Le.rEqLE_, ↓Ls.tLc_str, ↓Ls.sDPut_, ↓Rl.rReprL_, ↓Rl.tCallKS_, ↓Ob.tFld_, ↓Ob.sFld_, ↓tVar_, ↓tC_, ↓tM1, ↓tDNewK_, ↓tOp_, ↓tUn_, ↓rI_, ↓rI0_, ↓rU_, ↓eq_ii, ↓ne_ii, ↓eq_ss, ↓ne_ss, ↓eq_bb, ↓ne_bb, ↓tAndV_, ↓tOrV_, ↓tNotV_, ↓tIf_, ↓tTest_, ↓tB_, ↓tAnd_, ↓tOr_, ↓tNot_, ↓tChain_, ↓tNil_, ↓tCons_, ↓tTup_, ↓tLst_, ↓tCB_, ↓tCall_, ↓tSeq_, ↓tNext_, ↓tRet_, ↓tRetN_, ↓tDrop_, ↓tBreak_, ↓tNever_, ↓tIfS_, ↓tAsg_, ↓gName_, ↓gTup_, ↓gCons_, ↓gNil_, ↓gSub_, ↓tPar_, ↓tPar3_, ↓tSl_, ↓tNoPart_, ↓tPart_, ↓tBM_, ↓tFor_range1, ↓tFor_range2, ↓tFor_list, ↓tFor_tup, L2.start, List.headD_cons, List.headD_nil, List.tail_cons, List.map_cons, List.map_nil, List.length_cons, List.length_nil, List.replicate, List.append_nil, List.nil_append, List.cons_append, List.getElem?_cons_zero, List.getElem?_cons_succ, List.set_cons_zero, List.set_cons_succ, Option.some.injEq, V.int.injEq, V.bl.injEq, V.str.injEq, V.ref.injEq, exists_eq_left, exists_eq_left', exists_eq_right, exists_eq, exists_and_left, and_true, true_and, decide_eq_true_eq, Nat.reduceAdd, Nat.reduceSub, Nat.add_zero, Nat.zero_add, List.cons.injEq, Bool.not_eq_true', decide_eq_false_iff_not, eq_self, reduceCtorEq, Bool.false_eq_true, if_true, if_false, ite_true, ite_false, and_self, ↓tLc_range1, ↓tLc_range2, ↓tLc_list, ↓tLc_tup, ↓tYes_, wipe0, wipe1, ↓tCallS_, ↓rIxL_, ↓rIxT_, ↓rSlL_, ↓rCat_, ↓rSetL_, ↓rRep_, ↓rGcd_, ↓tCallK_, ↓gUnl_, ↓tRaise_, decide_true, decide_false, not_true_eq_false, not_false_eq_true, false_and, or_false, false_or, and_false, and_assoc, exists_const, forall_const, forall_eq'])
section
variable {P : Program} {w : World} {K : PySem.W.Frag} {mg : Str → Option Value} {base : Heap}
/-! ### stores looked at; parts -/
theorem make_same {H H2 : Hp} {x dx : Addr} {o o2 : HO} (h1 : H x = none) (h2 : H dx = none) (b : But x (upd (upd H dx o) x o2) H2) : Same H H2 := fun a v e => by
  have n1 : a ≠ x := fun z => by rw [z, h1] at e; cases e
  have n2 : a ≠ dx := fun z => by rw [z, h2] at e; cases e
  exact b a v n1 (by rw [upd_ne n1, upd_ne n2]; exact e)
theorem PrsAt.make {H : Hp} {x dx : Addr} {o o2 : HO} (h1 : H x = none) (h2 : H dx = none) {a : Addr} {kvs : List (Key × V)} (h : PrsAt K H a kvs) : PrsAt K (upd (upd H dx o) x o2) a kvs := h.up (make_same h1 h2 But.refl)
theorem kit_self {C : Addr} : PySem.W.kitOne K (.ref C) (.ref C) = some true := by unfold PySem.W.kitOne; rw [if_pos (by exact beq_self_eq_true _)]
def spChk (K : PySem.W.Frag) (C : Addr) : Sp := fun vs H Q _ => ∃ (r : Addr) (ns cs : List (Nat × Nat)), vs = [.ref r] ∧ StA K C H r ns cs ∧ Q .non H
theorem sc_chk : FnScope ["value"] ["value"] (defScope (top 24)) := ⟨rfl, rfl, rfl, by decide +kernel, rfl, by decide +kernel, by decide +kernel⟩
theorem ok_chk {f C fi : Addr} {fd : FuncData} (T : Tx mg) (L : StM K mg C fi) (F : FD K "check_store" (top 24) f fd) : FnOk P w K mg base CX0 1 f fd ["value"] (spChk K C) := by
  refine F.ok sc_chk (fun vs H Q E h => ?_) (fun cdv A outer s H vs Q E hr h => ?_)
  · obtain ⟨_, _, _, rfl, _⟩ := h
    rfl
  · obtain ⟨r, ns, cs, rfl, ⟨dx, an, ac, dp, da, hr0, _⟩, k⟩ := h
    have nd := sc_chk.nd
    refine ⟨_, (pss_one (ps_if (pt_not (pt_val (pe_callB call_isi (by rfl) T.b_isinstance (by decide +kernel) (pa_cons (pv 0) (pa_cons (pe_glob (v := .ref C) rfl L.g rfl) pa_nil))))) (pss_one ps_never) pss_nil)), ?_⟩
    walk_at "rd"
    exact ⟨_, _, .ref C, .ref C, true, rfl, .own C, .base (.ins hr0 L.own.cl L.own.ha L.own.hn L.own.ht L.own.hm), kit_self, true, rfl, k⟩
def cpP (H0 : Hp) (r pa : Addr) (ps : List Nat) (i : Nat) : L2.St → Hp → Prop := fun σ H => Same H0 H ∧ ∃ (l : Nat) (x y : Option V), (∀ c, ps[i]? = some c → l < c) ∧ σ = [some (.ref r), some (.ref pa), some (.int l), x, y]
abbrev vN (p : Nat) : V := .int p
def spCp (K : PySem.W.Frag) (C : Addr) : Sp := fun vs H Q _ => ∃ (r pa : Addr) (ns cs : List (Nat × Nat)) (ps : List Nat), vs = [.ref r, .ref pa] ∧ StA K C H r ns cs ∧ SqT K H pa (ps.map vN) ∧ ps.Pairwise (· < ·) ∧ (∀ p ∈ ps, 1 ≤ p ∧ p ≤ 999 ∧ (look cs p).isSome = true) ∧ ∀ H', Same H H' → Q .non H'
def selC (ps : List Nat) (b : Bool) (cs : List (Nat × Nat)) : List (Nat × Nat) := cs.filter fun c => decide (c.1 ∈ ps) == b
theorem selC_ok {ps : List Nat} {b : Bool} {cs : List (Nat × Nat)} (h : ClOk cs) : ClOk (selC ps b cs) :=
  ⟨Nat.le_trans (List.length_filter_le _ _) h.1, fun c hc => h.2.1 c (List.mem_filter.mp hc).1, h.2.2.sublist List.filter_sublist⟩
/-- the chosen places as a dict -/
def chK (p : Nat) : Key × V := (.inl p, .bl true)
theorem ch_look (ps : List Nat) (k : Nat) : (valV (ps.map chK) (.inl (k : Int) : Key)).isSome = decide (k ∈ ps) := by
  unfold valV
  rw [Option.isSome_map, List.find?_map, Option.isSome_map, Bool.eq_iff_iff, List.find?_isSome, decide_eq_true_eq]
  constructor
  · rintro ⟨x, hx, e⟩
    have : (Sum.inl (x : Int) : Key) = .inl (k : Int) := of_decide_eq_true e
    injection this with this
    rw [← Int.ofNat.inj this]
    exact hx
  · intro hx
    exact ⟨k, hx, decide_eq_true rfl⟩
theorem ch_merge {ps : List Nat} (h : ps.Pairwise (· < ·)) : mergeK [] (ps.map chK) = ps.map chK :=
  merge_new _ [] (fun _ hx => nomatch hx) (List.pairwise_map.mpr (h.imp fun {a b} q z => by
    have : (Sum.inl (a : Int) : Key) = .inl (b : Int) := z
    injection this with this
    omega))
def spPart (K : PySem.W.Frag) (C : Addr) : Sp := fun vs H Q _ => ∃ (r pa : Addr) (b : Bool) (ns cs : List (Nat × Nat)) (ps : List Nat), vs = [.ref r, .ref pa, .bl b] ∧ StA K C H r ns cs ∧ SqT K H pa (ps.map vN) ∧ ps.length ≤ 500 ∧ ps.Pairwise (· < ·) ∧
  ∀ (r' : Addr) (H' : Hp), Same H H' → StA K C H' r' ns (selC ps b cs) → Q (.ref r') H'
def spPw (K : PySem.W.Frag) (C : Addr) (b : Bool) : Sp := fun vs H Q _ => ∃ (r pa : Addr) (ns cs : List (Nat × Nat)) (ps : List Nat), vs = [.ref r, .ref pa] ∧ StA K C H r ns cs ∧ SqT K H pa (ps.map vN) ∧ ps.length ≤ 500 ∧ ps.Pairwise (· < ·) ∧ (∀ p ∈ ps, 1 ≤ p ∧ p ≤ 999 ∧ (look cs p).isSome = true) ∧
  ∀ (r' : Addr) (H' : Hp), Same H H' → StA K C H' r' ns (selC ps b cs) → Q (.ref r') H'
end
end K40S

set_option Elab.async false
set_option linter.all false
set_option maxRecDepth 100000
set_option maxHeartbeats 4000000
namespace K40S
open PySem PySem.Spec PyProof.Rows L2 Rd Dt Dq Pk Ln En Sx Sy So
local macro_rules | `(tactic| walk_at "rd") => `(tactic| try simp only [↓Sy.tTupP_, ↓Sy.rTupP_, ↓Sy.rCatP_, ↓Sy.rSlP_, ↓Sy.rDictT_, ↓Sy.tDGet_, ↓Sy.tDGet1_, ↓Sy.tDIn_, ↓Sy.tDNotIn_, ↓Sy.tMeth_, ↓Sy.tMethKw_, ↓Sy.rSortedS_, ↓Sx.rIsT_, ↓En.tFor_enumT, ↓Sy.tFor_enumL, ↓Rv.tMakeKw_, ↓Prp.tProp_, ↓Lo.tBits_, ↓Lo.tJs_n, ↓Lo.tJs_c, ↓Lo.tFmt_, ↓Lo.gFld_, ↓Lo.tMake_, ↓Lo.rOwn_, ↓Rg.tFor_range3, ↓Rg.tLc_range3, ↓Rg.tLstC_, ↓Rg.tLc_rngV, ↓Le.rNeLE_, ↓Le.rEqLE_, ↓Ls.tLc_str, ↓Ls.sDPut_, ↓Rl.rReprL_, ↓Rl.tCallKS_, ↓Ob.tFld_, ↓Ob.sFld_, ↓tVar_, ↓tC_, ↓tM1, ↓tDNewK_, ↓tOp_, ↓tUn_, ↓rI_, ↓rI0_, ↓rU_, ↓eq_ii, ↓ne_ii, ↓eq_ss, ↓ne_ss, ↓eq_bb, ↓ne_bb, ↓tAndV_, ↓tOrV_, ↓tNotV_, ↓tIf_, ↓tTest_, ↓tB_, ↓tAnd_, ↓tOr_, ↓tNot_, ↓tChain_, ↓tNil_, ↓tCons_, ↓tTup_, ↓tLst_, ↓tCB_, ↓tCall_, ↓tSeq_, ↓tNext_, ↓tRet_, ↓tRetN_, ↓tDrop_, ↓tBreak_, ↓tNever_, ↓tIfS_, ↓tAsg_, ↓gName_, ↓gTup_, ↓gCons_, ↓gNil_, ↓gSub_, ↓tPar_, ↓tPar3_, ↓tSl_, ↓tNoPart_, ↓tPart_, ↓tBM_, ↓tFor_range1, ↓tFor_range2, ↓tFor_list, ↓tFor_tup, L2.start, List.headD_cons, List.headD_nil, List.tail_cons, List.map_cons, List.map_nil, List.length_cons, List.length_nil, List.replicate, List.append_nil, List.nil_append, List.cons_append, List.getElem?_cons_zero, List.getElem?_cons_succ, List.set_cons_zero, List.set_cons_succ, Option.some.injEq, V.int.injEq, V.bl.injEq, V.str.injEq, V.ref.injEq, exists_eq_left, exists_eq_left', exists_eq_right, exists_eq, exists_and_left, and_true, true_and, decide_eq_true_eq, Nat.reduceAdd, Nat.reduceSub, Nat.add_zero, Nat.zero_add, List.cons.injEq, Bool.not_eq_true', decide_eq_false_iff_not, eq_self, reduceCtorEq, Bool.false_eq_true, if_true, if_false, ite_true, ite_false, and_self, ↓tLc_range1, ↓tLc_range2, ↓tLc_list, ↓tLc_tup, ↓tYes_, wipe0, wipe1, ↓tCallS_, ↓rIxL_, ↓rIxT_, ↓rSlL_, ↓rCat_, ↓rSetL_, ↓rRep_, ↓rGcd_, ↓tCallK_, ↓gUnl_, ↓tRaise_, decide_true, decide_false, not_true_eq_false, not_false_eq_true, false_and, or_false, false_or, and_false, and_assoc, exists_const, forall_const, forall_eq'])
section
variable {P : Program} {w : World} {K : PySem.W.Frag} {mg : Str → Option Value} {base : Heap}
/-! ### letters drawn -/
abbrev sL (c : Nat) : V := .str (L1 c)
theorem inV_L (c : Nat) (fs : List Nat) : inV (sL c) (fs.map sL) = decide (c ∈ fs) := by
  unfold inV
  rw [List.any_map, Bool.eq_iff_iff, List.any_eq_true, decide_eq_true_eq]
  constructor
  · rintro ⟨x, hx, e⟩
    have : eqV (sL x) (sL c) = true := e
    have e2 : L1 x = L1 c := by simpa [eqV] using this
    rw [← L1_inj e2]
    exact hx
  · intro hx
    exact ⟨c, hx, by show eqV (sL c) (sL c) = true; simp [eqV]⟩
theorem flat_L (fs : List Nat) : (fs.map sL).all flatV = true := by
  rw [List.all_map, List.all_eq_true]
  exact fun _ _ => rfl
def Lets (fs : List Nat) : Prop := fs.Nodup ∧ ∀ c ∈ fs, 97 ≤ c ∧ c ≤ 122
theorem rising_le : ∀ {xs : List Nat} {a : Nat}, risingS (L1 a) (xs.map L1) = true → (a :: xs).Pairwise (· ≤ ·)
  | [], a, _ => List.pairwise_singleton _ _
  | x :: xs, a, h => by
    rw [List.map_cons] at h
    unfold risingS at h
    rw [Bool.and_eq_true] at h
    have h2 := rising_le h.2
    have h1 : a ≤ x := by
      have := h.1
      rw [ltCps_eq, Bool.not_eq_true', decide_eq_false_iff_not] at this
      exact Decidable.by_contra fun z => this (lt_L1 (by omega))
    rw [List.pairwise_cons] at h2 ⊢
    refine ⟨fun y hy => ?_, by rw [List.pairwise_cons]; exact h2⟩
    rcases List.mem_cons.mp hy with rfl | hy
    · exact h1
    · have := h2.1 y hy
      omega
theorem sorted_L {ys : List Str} {fs : List Nat} (hp : ys.Perm (fs.map L1)) (hs : sortedS ys = true) (h : Lets fs) : ∃ cs : List Nat, ys = cs.map L1 ∧ cs.length = fs.length ∧ cs.Pairwise (· < ·) ∧ ∀ c ∈ cs, 97 ≤ c ∧ c ≤ 122 := by
  have e1 : ys = (ys.map fun s => s.cps.toList.headD 0).map L1 := by
    rw [List.map_map]
    refine (List.map_id' ys).symm.trans (List.map_congr_left fun s hs => ?_)
    obtain ⟨c, _, rfl⟩ := List.mem_map.mp (hp.mem_iff.mp hs)
    rfl
  have e2 : (ys.map fun s : Str => s.cps.toList.headD 0).Perm fs := by
    have := hp.map fun s : Str => s.cps.toList.headD 0
    rw [List.map_map] at this
    have e3 : (fs.map ((fun s : Str => s.cps.toList.headD 0) ∘ L1)) = fs := (List.map_congr_left fun c _ => rfl).trans (List.map_id' fs)
    rwa [e3] at this
  generalize (ys.map fun s : Str => s.cps.toList.headD 0) = cs at e1 e2
  subst e1
  refine ⟨cs, rfl, e2.length_eq, ?_, fun c hc => h.2 c (e2.mem_iff.mp hc)⟩
  have nd : cs.Nodup := e2.nodup_iff.mpr h.1
  have le : cs.Pairwise (· ≤ ·) := by
    cases cs with
    | nil => exact .nil
    | cons c cs => exact rising_le hs
  exact (le.and nd).imp fun {a b} q => by have := q.2; omega
def spLets : Sp := fun vs H Q _ => ∃ (u : Addr) (m : Nat), vs = [.ref u, .int m] ∧ WellAt H u ∧ m ≤ 4 ∧ ∀ (p : Addr) (cs : List Nat) (H' : Hp), But u H H' → WellAt H' u → H' p = some (.lst (cs.map sL)) → H p = none → cs.length = m → cs.Pairwise (· < ·) → (∀ c ∈ cs, 97 ≤ c ∧ c ≤ 122) → Q (.ref p) H'
def ltP (H0 : Hp) (u D : Addr) (m : Nat) (i : Nat) : L2.St → Hp → Prop := fun σ H => But u H0 H ∧ WellAt H u ∧ ∃ (fs : List Nat) (v1 v2 v3 : Option V), fs.length = i ∧ Lets fs ∧ H D = some (.lst (fs.map sL)) ∧ σ = [some (.ref u), some (.int m), some (.ref D), v1, v2, v3]
def nrP (H : Hp) (fs tk : List Nat) (D : Addr) (j : Nat) (H' : Hp) : Prop := Same H H' ∧ H' D = some (.lst (((tk.take j).filter fun c => !decide (c ∈ fs)).map sL))
theorem nrP_step {H : Hp} {fs tk : List Nat} {D : Addr} {j : Nat} {H' : Hp} (hl : tk.length ≤ 500) (h : nrP H fs tk D j H') (hD : H D = none) {c : Nat} (hc : tk[j]? = some c) :
    if (!decide (c ∈ fs)) = true then ∃ acc, H' D = some (.lst acc) ∧ acc.length < sizeLine ∧ nrP H fs tk D (j + 1) (upd H' D (.lst (acc ++ [sL c]))) else nrP H fs tk D (j + 1) H' := by
  obtain ⟨hs, hL⟩ := h
  have zl : (1000000 : Nat) ≤ sizeLine := line_big
  have e1 : (tk.take (j + 1)).filter (fun c => !decide (c ∈ fs)) = (tk.take j).filter (fun c => !decide (c ∈ fs)) ++ if (!decide (c ∈ fs)) = true then [c] else [] := by
    rw [List.take_succ, hc, List.filter_append]
    congr 1
    by_cases d : (!decide (c ∈ fs)) = true
    · rw [if_pos d]; simp only [Option.toList_some, List.filter_cons, d, if_true, List.filter_nil]
    · rw [if_neg d]; simp only [Option.toList_some, List.filter_cons, d, if_false, List.filter_nil, Bool.false_eq_true]
  split
  · rename_i d
    refine ⟨_, hL, ?_, fun b o e => ?_, ?_⟩
    · rw [List.length_map]
      have h1 := List.length_filter_le (fun c : Nat => !decide (c ∈ fs)) (tk.take j)
      have h2 : (List.take j tk).length ≤ tk.length := List.length_take_le' _ _
      omega
    · rw [upd_ne (ne_of_none e hD)]; exact hs b o e
    · rw [upd_same, e1, if_pos d, List.map_append]; rfl
  · rename_i d
    refine ⟨hs, ?_⟩
    rw [e1, if_neg d, List.append_nil]
    exact hL
theorem fil_len {fs tk : List Nat} (hf : fs.length < tk.length) (hd : tk.Nodup) : 1 ≤ (tk.filter fun c => !decide (c ∈ fs)).length := by
  refine Decidable.by_contra fun z => ?_
  have e : tk.filter (fun c => !decide (c ∈ fs)) = [] := List.eq_nil_of_length_eq_zero (by omega)
  have sub : ∀ c ∈ tk, c ∈ fs := fun c hc => Decidable.by_contra fun n => by
    have : c ∈ tk.filter (fun c => !decide (c ∈ fs)) := List.mem_filter.mpr ⟨hc, by simp [n]⟩
    rw [e] at this
    cases this
  have := List.Nodup.length_le_of_subset hd sub
  omega
/-! ### places drawn -/
theorem inV_int (c : Int) (fs : List Int) : inV (.int c) (fs.map V.int) = decide (c ∈ fs) := by
  unfold inV
  rw [List.any_map, Bool.eq_iff_iff, List.any_eq_true, decide_eq_true_eq]
  constructor
  · rintro ⟨x, hx, e⟩
    have e2 : x = c := by simpa [eqV] using e
    rw [← e2]
    exact hx
  · intro hx
    exact ⟨c, hx, by simp [eqV]⟩
theorem flat_int (fs : List Int) : (fs.map V.int).all flatV = true := by
  rw [List.all_map, List.all_eq_true]
  exact fun _ _ => rfl
theorem flat_N (fs : List Nat) : (fs.map vN).all flatV = true := by
  rw [List.all_map, List.all_eq_true]
  exact fun _ _ => rfl
def spPlaces : Sp := fun vs H Q _ => ∃ (u : Addr) (m : Nat), vs = [.ref u, .int m] ∧ WellAt H u ∧ 1 ≤ m ∧ m ≤ 20 ∧ ∀ (p : Addr) (ps : List Nat) (H' : Hp), But u H H' → WellAt H' u → H' p = some (.lst (ps.map vN)) → H p = none → ps.length = m → (∀ c ∈ ps, 1 ≤ c ∧ c ≤ 999) → Q (.ref p) H'
def plP (H0 : Hp) (u D : Addr) (m wd : Nat) (i : Nat) : L2.St → Hp → Prop := fun σ H => But u H0 H ∧ WellAt H u ∧ ∃ (fs : List Nat) (v1 v2 v3 : Option V), fs.length = i ∧ (∀ c ∈ fs, 1 ≤ c ∧ c ≤ 999) ∧ H D = some (.lst (fs.map vN)) ∧ σ = [some (.ref u), some (.int m), some (.int wd), some (.ref D), v1, v2, v3]
/-! ### a store drawn -/
theorem putK_len (kvs : List (Key × V)) (k : Key) (v : V) : (putK kvs k v).length ≤ kvs.length + 1 := by
  unfold putK
  split
  · rw [List.length_map]; omega
  · rw [List.length_append]; exact Nat.le_refl _
/-- pairs with unlike first parts, put one by one -/
def putN (ds : List (Nat × Nat)) (k v : Nat) : List (Nat × Nat) := if ds.any (fun d => decide (d.1 = k)) then ds.map (fun d => if d.1 = k then (d.1, v) else d) else ds ++ [(k, v)]
theorem putK_ck (ds : List (Nat × Nat)) (k v : Nat) : putK (ds.map ck) (.inl (k : Int)) (.int v) = (putN ds k v).map ck := by
  unfold putK putN
  have e1 : (ds.map ck).any (fun p => decide (p.1 = (.inl (k : Int) : Key))) = ds.any (fun d => decide (d.1 = k)) := by
    rw [List.any_map]
    congr 1
    funext d
    show decide ((Sum.inl (d.1 : Int) : Key) = .inl (k : Int)) = _
    rw [decide_eq_decide]
    exact ⟨fun z => by injection z with z; omega, fun z => by rw [z]⟩
  rw [e1]
  split
  · rw [List.map_map, List.map_map]
    refine List.map_congr_left fun d _ => ?_
    show (if (Sum.inl (d.1 : Int) : Key) = .inl (k : Int) then _ else _) = ck (if d.1 = k then (d.1, v) else d)
    by_cases c : d.1 = k
    · rw [if_pos c, if_pos (by rw [c])]; rfl
    · rw [if_neg c, if_neg (fun z => c (by injection z with z; omega))]
  · rw [List.map_append]; rfl
def DcOk (m : Nat) (ds : List (Nat × Nat)) : Prop := ds.length ≤ m ∧ (∀ c ∈ ds, 1 ≤ c.1 ∧ c.1 ≤ 999 ∧ c.2 ≤ 999) ∧ (ds.map (·.1)).Nodup
theorem putN_ok {m : Nat} {ds : List (Nat × Nat)} {k v : Nat} (h : DcOk m ds) (k1 : 1 ≤ k) (k2 : k ≤ 999) (v1 : v ≤ 999) : DcOk (m + 1) (putN ds k v) := by
  obtain ⟨h1, h2, h3⟩ := h
  unfold putN
  split
  · refine ⟨by rw [List.length_map]; omega, fun c hc => ?_, ?_⟩
    · obtain ⟨d, hd, rfl⟩ := List.mem_map.mp hc
      have := h2 d hd
      split
      · exact ⟨this.1, this.2.1, v1⟩
      · exact this
    · rw [List.map_map]
      have : ((fun x : Nat × Nat => x.1) ∘ fun d : Nat × Nat => if d.1 = k then (d.1, v) else d) = fun x => x.1 := by
        funext d
        show (if d.1 = k then (d.1, v) else d).1 = d.1
        split <;> rfl
      rw [this]
      exact h3
  · rename_i hn
    refine ⟨by rw [List.length_append]; exact Nat.succ_le_succ h1, fun c hc => ?_, ?_⟩
    · rcases List.mem_append.mp hc with hc | hc
      · exact h2 c hc
      · rw [List.mem_singleton.mp hc]; exact ⟨k1, k2, v1⟩
    · rw [List.map_append, List.nodup_append]
      refine ⟨h3, by simp, fun a ha b hb z => ?_⟩
      obtain ⟨d, hd, rfl⟩ := List.mem_map.mp ha
      have hb : b ∈ [k] := hb
      rw [List.mem_singleton.mp hb] at z
      exact hn (List.any_eq_true.mpr ⟨d, hd, decide_eq_true z⟩)
/-- the law's store: names and cells in dicts -/
def LSt (m : Nat) (H : Hp) (a dn dc : Addr) (ns ds : List (Nat × Nat)) : Prop := H a = some (.lst [.ref dn, .ref dc]) ∧ H dn = some (.dK (ns.map nk)) ∧ H dc = some (.dK (ds.map ck)) ∧ NmOk ns ∧ DcOk m ds
theorem cut_to {xs : List V} {i : Int} (h : 0 ≤ i ∧ i ≤ xs.length) : cutV xs none (some i) = xs.take i.toNat := by
  obtain ⟨j, rfl⟩ : ∃ j : Nat, i = j := ⟨i.toNat, by omega⟩
  unfold cutV
  rw [HT.sIx_nat, HT.sIx_none, List.drop_zero, Nat.sub_zero, Nat.min_eq_left (by omega), Int.toNat_natCast]
theorem cut_from {xs : List V} {i : Int} (h : 0 ≤ i ∧ i ≤ xs.length) : cutV xs (some i) none = xs.drop i.toNat := by
  obtain ⟨j, rfl⟩ : ∃ j : Nat, i = j := ⟨i.toNat, by omega⟩
  unfold cutV
  rw [HT.sIx_nat, HT.sIx_none, Nat.min_eq_left (by omega), List.take_of_length_le (by rw [List.length_drop]; omega), Int.toNat_natCast]
def spStore : Sp := fun vs H Q _ => ∃ (u lt : Addr) (ls : List Nat) (m : Nat), vs = [.ref u, .ref lt, .int m] ∧ WellAt H u ∧ H lt = some (.lst (ls.map sL)) ∧ 1 ≤ ls.length ∧ ls.length ≤ 4 ∧ ls.Pairwise (· < ·) ∧ (∀ c ∈ ls, 97 ≤ c ∧ c ≤ 122) ∧ m ≤ 9 ∧
  ∀ (a dn dc : Addr) (ns ds : List (Nat × Nat)) (H' : Hp), But u H H' → WellAt H' u → LSt m H' a dn dc ns ds → ns.map (·.1) = ls → a ≠ u → dn ≠ u → dc ≠ u → H dn = none → dn ≠ dc → Q (.ref a) H'
theorem sc_so : FnScope ["_law_mine", "_law_heads", "_law_sign", "_law_spot"] ["_law_mine"] (defScope (top 47)) := ⟨rfl, rfl, rfl, by decide +kernel, rfl, by decide +kernel, by decide +kernel⟩
end
end K40S

set_option Elab.async false
set_option linter.all false
set_option maxRecDepth 100000
set_option maxHeartbeats 2000000
/-! pairs in the order of their first parts; a store's text in one join -/
namespace Sr
open PySem PySem.Spec PyProof.Rows L2 Rd Dt Pk Ln En Sx TL
theorem joinL_app (S : List Nat) (b : List (List Nat)) (hb : b ≠ []) : ∀ a : List (List Nat), a ≠ [] → joinL S (a ++ b) = joinL S a ++ (S ++ joinL S b)
  | [], h => absurd rfl h
  | [x], _ => by
    cases b with
    | nil => exact absurd rfl hb
    | cons y r => rfl
  | x :: y :: r, _ => by
    have ih := joinL_app S b hb (y :: r) (by simp)
    show x ++ (S ++ joinL S (y :: r ++ b)) = x ++ (S ++ joinL S (y :: r)) ++ (S ++ joinL S b)
    rw [ih]
    simp only [List.append_assoc]
theorem store_join {ns cs : List (Nat × Nat)} (h : ns ≠ []) : Txt.join " " (ns.map nameW ++ [("|" : Str)] ++ (if cs = [] then [("none" : Str)] else cs.map cellW)) = storeT ns cs := by
  refine ext_tl ?_
  have hm : (ns.map nameW).map tl ≠ [] := by simp [h]
  unfold storeT namesT cellsT
  rw [join_eq, tl_join, tl_append, tl_append, join_eq, tl_join, List.map_append, List.map_append, List.append_assoc, joinL_app _ _ (by simp) _ hm]
  have e1 : tl " " = [32] := by decide +kernel
  have e2 : tl "|" = [124] := by decide +kernel
  rw [e1, tl_bar]
  by_cases c : cs = []
  · rw [if_pos c, if_pos c]
    show _ ++ ([32] ++ (tl "|" ++ ([32] ++ tl "none"))) = _
    rw [e2]
    simp only [List.append_assoc, List.cons_append, List.nil_append]
  · rw [if_neg c, if_neg c, join_eq, tl_join, e1]
    have e3 : (cs.map cellW).map tl ≠ [] := by simp [c]
    rw [joinL_app _ _ e3 _ (by simp)]
    show _ ++ ([32] ++ (tl "|" ++ ([32] ++ _))) = _
    rw [e2]
    simp only [List.append_assoc, List.cons_append, List.nil_append]
/-- the pairs in order -/
def srt (ds : List (Nat × Nat)) : List (Nat × Nat) := ds.mergeSort fun a b => decide (a.1 ≤ b.1)
theorem srt_perm (ds : List (Nat × Nat)) : (srt ds).Perm ds := List.mergeSort_perm _ _
theorem srt_le (ds : List (Nat × Nat)) : (srt ds).Pairwise fun a b => a.1 ≤ b.1 :=
  (List.pairwise_mergeSort (le := fun a b : Nat × Nat => decide (a.1 ≤ b.1)) (fun a b c h1 h2 => by simp only [decide_eq_true_eq] at *; omega) (fun a b => by simp only [Bool.or_eq_true, decide_eq_true_eq]; omega) ds).imp fun {a b} h => of_decide_eq_true h
theorem srt_asc {ds : List (Nat × Nat)} (h : (ds.map (·.1)).Nodup) : Asc (srt ds) := by
  have n : ((srt ds).map (·.1)).Nodup := ((srt_perm ds).map _).nodup_iff.mpr h
  have n2 : (srt ds).Pairwise fun x y => x.1 ≠ y.1 := List.pairwise_map.mp n
  exact ((srt_le ds).and n2).imp fun {a b} q => by have := q.1; have := q.2; omega
theorem srt_keys {ds : List (Nat × Nat)} {ys : List Int} (p : ys.Perm (ds.map fun d => (d.1 : Int))) (h : ys.Pairwise (· ≤ ·)) : ys = (srt ds).map fun d => (d.1 : Int) := by
  refine List.Perm.eq_of_pairwise (le := fun x y : Int => x ≤ y) (fun a b _ _ q r => by omega) h ?_ (p.trans ((srt_perm ds).symm.map _))
  exact List.pairwise_map.mpr ((srt_le ds).imp fun {a b} q => by omega)
theorem srt_len (ds : List (Nat × Nat)) : (srt ds).length = ds.length := (srt_perm ds).length_eq
theorem srt_nil {ds : List (Nat × Nat)} : srt ds = [] ↔ ds = [] := by
  rw [← List.length_eq_zero_iff, ← List.length_eq_zero_iff, srt_len]
theorem asc_uniq {ds es : List (Nat × Nat)} (h1 : Asc ds) (h2 : Asc es) (p : ds.Perm es) : ds = es :=
  List.Perm.eq_of_pairwise (le := fun x y : Nat × Nat => x.1 < y.1) (fun a b _ _ q r => by omega) h1 h2 p
theorem srt_asc_id {ds : List (Nat × Nat)} (h : Asc ds) : srt ds = ds :=
  asc_uniq (srt_asc (List.pairwise_map.mpr (h.imp fun {a b} q => by omega))) h (srt_perm ds)
theorem look_mem : ∀ {ds : List (Nat × Nat)}, (ds.map (·.1)).Nodup → ∀ {d : Nat × Nat}, d ∈ ds → look ds d.1 = some d.2
  | c :: ds, h, d, hd => by
    rw [List.map_cons, List.nodup_cons] at h
    unfold look
    rw [List.find?_cons]
    by_cases e : c.1 = d.1
    · rw [decide_eq_true e]
      rcases List.mem_cons.mp hd with rfl | hd
      · rfl
      · exact absurd (List.mem_map.mpr ⟨d, hd, e.symm⟩) h.1
    · rw [decide_eq_false e]
      rcases List.mem_cons.mp hd with rfl | hd
      · exact absurd rfl e
      · exact look_mem h.2 hd
theorem look_none {cs : List (Nat × Nat)} {p : Nat} : look cs p = none ↔ ∀ c ∈ cs, c.1 ≠ p := by
  unfold look
  rw [Option.map_eq_none_iff, List.find?_eq_none]
  constructor
  · intro h c hc
    simpa using h c hc
  · intro h c hc
    simpa using h c hc
theorem look_some {cs : List (Nat × Nat)} {p : Nat} : (look cs p).isSome = true ↔ ∃ c ∈ cs, c.1 = p := by
  constructor
  · intro h
    refine Decidable.by_contra fun z => ?_
    have : look cs p = none := look_none.mpr fun c hc e => z ⟨c, hc, e⟩
    rw [this] at h
    cases h
  · rintro ⟨c, hc, e⟩
    cases el : look cs p with
    | none => exact absurd e (look_none.mp el c hc)
    | some v => rfl
end Sr

set_option Elab.async false
set_option linter.all false
set_option maxRecDepth 100000
set_option maxHeartbeats 4000000
namespace K40S
open PySem PySem.Spec PyProof.Rows L2 Rd Dt Dq Pk Ln En Sx Sy So Sr
local macro_rules | `(tactic| walk_at "rd") => `(tactic| try simp only [↓Sy.tTupP_, ↓Sy.rTupP_, ↓Sy.rCatP_, ↓Sy.rSlP_, ↓Sy.rDictT_, ↓Sy.tDGet_, ↓Sy.tDGet1_, ↓Sy.tDIn_, ↓Sy.tDNotIn_, ↓Sy.tMeth_, ↓Sy.tMethKw_, ↓Sy.rSortedS_, ↓Sx.rIsT_, ↓En.tFor_enumT, ↓Sy.tFor_enumL, ↓Rv.tMakeKw_, ↓Prp.tProp_, ↓Lo.tBits_, ↓Lo.tJs_n, ↓Lo.tJs_c, ↓Lo.tFmt_, ↓Lo.gFld_, ↓Lo.tMake_, ↓Lo.rOwn_, ↓Rg.tFor_range3, ↓Rg.tLc_range3, ↓Rg.tLstC_, ↓Rg.tLc_rngV, ↓Le.rNeLE_, ↓Le.rEqLE_, ↓Ls.tLc_str, ↓Ls.sDPut_, ↓Rl.rReprL_, ↓Rl.tCallKS_, ↓Ob.tFld_, ↓Ob.sFld_, ↓tVar_, ↓tC_, ↓tM1, ↓tDNewK_, ↓tOp_, ↓tUn_, ↓rI_, ↓rI0_, ↓rU_, ↓eq_ii, ↓ne_ii, ↓eq_ss, ↓ne_ss, ↓eq_bb, ↓ne_bb, ↓tAndV_, ↓tOrV_, ↓tNotV_, ↓tIf_, ↓tTest_, ↓tB_, ↓tAnd_, ↓tOr_, ↓tNot_, ↓tChain_, ↓tNil_, ↓tCons_, ↓tTup_, ↓tLst_, ↓tCB_, ↓tCall_, ↓tSeq_, ↓tNext_, ↓tRet_, ↓tRetN_, ↓tDrop_, ↓tBreak_, ↓tNever_, ↓tIfS_, ↓tAsg_, ↓gName_, ↓gTup_, ↓gCons_, ↓gNil_, ↓gSub_, ↓tPar_, ↓tPar3_, ↓tSl_, ↓tNoPart_, ↓tPart_, ↓tBM_, ↓tFor_range1, ↓tFor_range2, ↓tFor_list, ↓tFor_tup, L2.start, List.headD_cons, List.headD_nil, List.tail_cons, List.map_cons, List.map_nil, List.length_cons, List.length_nil, List.replicate, List.append_nil, List.nil_append, List.cons_append, List.getElem?_cons_zero, List.getElem?_cons_succ, List.set_cons_zero, List.set_cons_succ, Option.some.injEq, V.int.injEq, V.bl.injEq, V.str.injEq, V.ref.injEq, exists_eq_left, exists_eq_left', exists_eq_right, exists_eq, exists_and_left, and_true, true_and, decide_eq_true_eq, Nat.reduceAdd, Nat.reduceSub, Nat.add_zero, Nat.zero_add, List.cons.injEq, Bool.not_eq_true', decide_eq_false_iff_not, eq_self, reduceCtorEq, Bool.false_eq_true, if_true, if_false, ite_true, ite_false, and_self, ↓tLc_range1, ↓tLc_range2, ↓tLc_list, ↓tLc_tup, ↓tYes_, wipe0, wipe1, ↓tCallS_, ↓rIxL_, ↓rIxT_, ↓rSlL_, ↓rCat_, ↓rSetL_, ↓rRep_, ↓rGcd_, ↓tCallK_, ↓gUnl_, ↓tRaise_, decide_true, decide_false, not_true_eq_false, not_false_eq_true, false_and, or_false, false_or, and_false, and_assoc, exists_const, forall_const, forall_eq'])
section
variable {P : Program} {w : World} {K : PySem.W.Frag} {mg : Str → Option Value} {base : Heap}
/-! ### the law's text, its store, its parts -/
def spTxt : Sp := fun vs H Q _ => ∃ (m : Nat) (a dn dc : Addr) (ns ds : List (Nat × Nat)), vs = [.ref a] ∧ LSt m H a dn dc ns ds ∧ m ≤ 10 ∧ ∀ H', Same H H' → Q (.str (storeT ns (srt ds))) H'
theorem DcOk.cl {m : Nat} {ds : List (Nat × Nat)} (h : DcOk m ds) (hm : m ≤ 10) : ClOk (srt ds) := ⟨by rw [srt_len]; have := h.1; omega, fun c hc => h.2.1 c ((srt_perm ds).mem_iff.mp hc), srt_asc h.2.2⟩
theorem sorted_names {ns : List (Nat × Nat)} (h : NmOk ns) {ys : List Str} (p : ys.Perm (ns.map fun n => L1 n.1)) (s : sortedS ys = true) : ys = ns.map fun n => L1 n.1 := by
  have e0 : (ns.map fun n => L1 n.1) = (ns.map (·.1)).map L1 := by rw [List.map_map]; rfl
  have asc : (ns.map (·.1)).Pairwise (· < ·) := List.pairwise_map.mpr h.2.2.2
  rw [e0] at p ⊢
  obtain ⟨cs, rfl, e1, e2, _⟩ := sorted_L p s ⟨asc.imp fun {a b} q => by omega, fun c hc => by
    obtain ⟨n, hn, rfl⟩ := List.mem_map.mp hc
    have := h.2.2.1 n hn
    exact ⟨this.1, this.2.1⟩⟩
  have q := p.map fun s : Str => s.cps.toList.headD 0
  rw [List.map_map, List.map_map] at q
  have e3 : ∀ l : List Nat, l.map ((fun s : Str => s.cps.toList.headD 0) ∘ L1) = l := fun l => (List.map_congr_left fun c _ => rfl).trans (List.map_id' l)
  rw [e3, e3] at q
  rw [List.Perm.eq_of_pairwise (le := fun x y : Nat => x < y) (fun a b _ _ q r => by omega) e2 asc q]
theorem asc_nodup {cs : List (Nat × Nat)} (h : Asc cs) : (cs.map (·.1)).Nodup := List.pairwise_map.mpr (h.imp fun {a b} q => by omega)
theorem get_n {H : Hp} {dn : Addr} {ns : List (Nat × Nat)} (h : H dn = some (.dK (ns.map nk))) (asc : Asc ns) {n : Nat × Nat} (hn : n ∈ ns) : DGet H dn (.str (L1 n.1)) (some (.int n.2)) := by
  have := DGet.k (k := Sum.inr (L1 n.1)) h
  rw [val_n, look_mem (asc_nodup asc) hn] at this
  exact this
theorem get_d {H : Hp} {dc : Addr} {ds : List (Nat × Nat)} (h : H dc = some (.dK (ds.map ck))) (nd : (ds.map (·.1)).Nodup) {d : Nat × Nat} (hd : d ∈ ds) : DGet H dc (.int d.1) (some (.int d.2)) := by
  have := get_c h d.1
  rw [look_mem nd hd] at this
  exact this
theorem keys_n (ns : List (Nat × Nat)) : (ns.map nk).map (·.1) = (ns.map fun n => L1 n.1).map (Sum.inr : Str → Key) := by rw [List.map_map, List.map_map]; rfl
theorem keys_c (ds : List (Nat × Nat)) : (ds.map ck).map (·.1) = (ds.map fun d => (d.1 : Int)).map (Sum.inl : Int → Key) := by rw [List.map_map, List.map_map]; rfl
end
end K40S

set_option Elab.async false
set_option linter.all false
set_option maxRecDepth 100000
set_option maxHeartbeats 4000000
namespace K40S
open PySem PySem.Spec PyProof.Rows L2 Rd Dt Dq Pk Ln En Sx Sy So Sr
local macro_rules | `(tactic| walk_at "rd") => `(tactic| try simp only [↓Sy.tTupP_, ↓Sy.rTupP_, ↓Sy.rCatP_, ↓Sy.rSlP_, ↓Sy.rDictT_, ↓Sy.tDGet_, ↓Sy.tDGet1_, ↓Sy.tDIn_, ↓Sy.tDNotIn_, ↓Sy.tMeth_, ↓Sy.tMethKw_, ↓Sy.rSortedS_, ↓Sx.rIsT_, ↓En.tFor_enumT, ↓Sy.tFor_enumL, ↓Rv.tMakeKw_, ↓Prp.tProp_, ↓Lo.tBits_, ↓Lo.tJs_n, ↓Lo.tJs_c, ↓Lo.tFmt_, ↓Lo.gFld_, ↓Lo.tMake_, ↓Lo.rOwn_, ↓Rg.tFor_range3, ↓Rg.tLc_range3, ↓Rg.tLstC_, ↓Rg.tLc_rngV, ↓Le.rNeLE_, ↓Le.rEqLE_, ↓Ls.tLc_str, ↓Ls.sDPut_, ↓Rl.rReprL_, ↓Rl.tCallKS_, ↓Ob.tFld_, ↓Ob.sFld_, ↓tVar_, ↓tC_, ↓tM1, ↓tDNewK_, ↓tOp_, ↓tUn_, ↓rI_, ↓rI0_, ↓rU_, ↓eq_ii, ↓ne_ii, ↓eq_ss, ↓ne_ss, ↓eq_bb, ↓ne_bb, ↓tAndV_, ↓tOrV_, ↓tNotV_, ↓tIf_, ↓tTest_, ↓tB_, ↓tAnd_, ↓tOr_, ↓tNot_, ↓tChain_, ↓tNil_, ↓tCons_, ↓tTup_, ↓tLst_, ↓tCB_, ↓tCall_, ↓tSeq_, ↓tNext_, ↓tRet_, ↓tRetN_, ↓tDrop_, ↓tBreak_, ↓tNever_, ↓tIfS_, ↓tAsg_, ↓gName_, ↓gTup_, ↓gCons_, ↓gNil_, ↓gSub_, ↓tPar_, ↓tPar3_, ↓tSl_, ↓tNoPart_, ↓tPart_, ↓tBM_, ↓tFor_range1, ↓tFor_range2, ↓tFor_list, ↓tFor_tup, L2.start, List.headD_cons, List.headD_nil, List.tail_cons, List.map_cons, List.map_nil, List.length_cons, List.length_nil, List.replicate, List.append_nil, List.nil_append, List.cons_append, List.getElem?_cons_zero, List.getElem?_cons_succ, List.set_cons_zero, List.set_cons_succ, Option.some.injEq, V.int.injEq, V.bl.injEq, V.str.injEq, V.ref.injEq, exists_eq_left, exists_eq_left', exists_eq_right, exists_eq, exists_and_left, and_true, true_and, decide_eq_true_eq, Nat.reduceAdd, Nat.reduceSub, Nat.add_zero, Nat.zero_add, List.cons.injEq, Bool.not_eq_true', decide_eq_false_iff_not, eq_self, reduceCtorEq, Bool.false_eq_true, if_true, if_false, ite_true, ite_false, and_self, ↓tLc_range1, ↓tLc_range2, ↓tLc_list, ↓tLc_tup, ↓tYes_, wipe0, wipe1, ↓tCallS_, ↓rIxL_, ↓rIxT_, ↓rSlL_, ↓rCat_, ↓rSetL_, ↓rRep_, ↓rGcd_, ↓tCallK_, ↓gUnl_, ↓tRaise_, decide_true, decide_false, not_true_eq_false, not_false_eq_true, false_and, or_false, false_or, and_false, and_assoc, exists_const, forall_const, forall_eq'])
section
variable {P : Program} {w : World} {K : PySem.W.Frag} {mg : Str → Option Value} {base : Heap}
/-! ### the package's store made, parts made -/
def spMade (K : PySem.W.Frag) (C : Addr) : Sp := fun vs H Q _ => ∃ (m : Nat) (a dn dc : Addr) (ns ds : List (Nat × Nat)), vs = [.ref a] ∧ LSt m H a dn dc ns ds ∧ m ≤ 10 ∧ ∀ r H', Same H H' → StA K C H' r ns (srt ds) → Q (.ref r) H'
def spPrt : Sp := fun vs H Q _ => ∃ (m : Nat) (a dn dc sp : Addr) (ns ds : List (Nat × Nat)) (ps : List Nat), vs = [.ref a, .ref sp] ∧ LSt m H a dn dc ns ds ∧ m ≤ 10 ∧ H sp = some (.lst (ps.map vN)) ∧ ps.length ≤ m ∧ ps.Pairwise (· < ·) ∧ (∀ p ∈ ps, p ∈ ds.map (·.1)) ∧
  ∀ (a' dn' dc' : Addr) (es : List (Nat × Nat)) H', Same H H' → LSt m H' a' dn' dc' ns es → es.map (·.1) = ps → (∀ e ∈ es, e ∈ ds) → Q (.ref a') H'
end
end K40S

set_option Elab.async false
set_option linter.all false
set_option maxRecDepth 100000
set_option maxHeartbeats 2000000
/-! a dict walked by its keys: locked while the walk goes on -/
namespace Lk
open PySem PySem.Spec PyProof.Rows L2 Rd Dt Pk Ln En Sx Sy
section
variable {K : PySem.W.Frag} {σ : L2.St} {H H' : Hp} {Q : VK} {t : TE} {ts : TS} {td : TE} {g : TG} {tt : TT} {te : TE} {tb : TS} {vs : List Nat} {D : Ends}
theorem tLockE_ : tLockE t σ H Q = ∃ d u, H d = some u ∧ Mut (some u) ∧ ∀ od, t σ (upd H d (.frz od u)) fun v H' => H' d = some (.frz od u) ∧ Q v (upd H' d u) := rfl
theorem tLock_ : tLock ts D σ H = ∃ d u, H d = some u ∧ Mut (some u) ∧ ∀ od, ts ⟨fun σ' H' => H' d = some (.frz od u) ∧ D.nx σ' (upd H' d u), fun v H' => H' d = some (.frz od u) ∧ D.rt v (upd H' d u), fun σ' H' => H' d = some (.frz od u) ∧ D.bk σ' (upd H' d u), fun σ' H' => H' d = some (.frz od u) ∧ D.ct σ' (upd H' d u)⟩ σ (upd H d (.frz od u)) := rfl
theorem tLc_keys : tLc (iKeys td) g tt te vs σ H Q = td σ H fun x H1 => ∃ d o, x = .ref d ∧ ((∃ kvs, H1 d = some (.frz o (.dK kvs)) ∧ tLc (fun _ H R => R (Itk d o kvs) H) g tt te vs σ H1 Q) ∨ ∃ kvs, H1 d = some (.frz o (.dT kvs)) ∧ tLc (fun _ H R => R (Itkt d o kvs) H) g tt te vs σ H1 Q) := by
  unfold tLc iKeys
  rfl
theorem tFor_keys : tFor (iKeys td) g tb D σ H = td σ H fun x H1 => ∃ d o, x = .ref d ∧ ((∃ kvs, H1 d = some (.frz o (.dK kvs)) ∧ tFor (fun _ H R => R (Itk d o kvs) H) g tb D σ H1) ∨ ∃ kvs, H1 d = some (.frz o (.dT kvs)) ∧ tFor (fun _ H R => R (Itkt d o kvs) H) g tb D σ H1) := by
  unfold tFor iKeys
  rfl
theorem lc_k {d : Addr} {o : Obj} {kvs : List (Key × V)} (Pv : Addr → Nat → Hp → Prop) (h : ∀ D, H D = none → Pv D 0 (upd H D (.lst [])) ∧ (∀ i H', i ≤ kvs.length → Pv D i H' → H' d = some (.frz o (.dK kvs))) ∧ (∀ i kv H', kvs[i]? = some kv → Pv D i H' → Lturn g tt te vs σ D (kV kv.1) H' (Pv D (i + 1))) ∧ (∀ H', Pv D kvs.length H' → Q (.ref D) H')) :
    tLc (fun _ H R => R (Itk d o kvs) H) g tt te vs σ H Q := fun D hD => lc_it walk_keys (Pv D) (h D hD).1 (h D hD).2.1 (fun i x H H' hi hp hy => by
      obtain ⟨rfl, k, v, hk, rfl⟩ := hy
      exact (h D hD).2.2.1 i (k, v) _ hk hp) (h D hD).2.2.2
theorem for_k {d : Addr} {o : Obj} {kvs : List (Key × V)} (Pv : Nat → L2.St → Hp → Prop) (h0 : Pv 0 σ H) (hl : ∀ i σ H, i ≤ kvs.length → Pv i σ H → H d = some (.frz o (.dK kvs)))
    (hs : ∀ i kv σ H, kvs[i]? = some kv → Pv i σ H → g (kV kv.1) σ H fun σ2 H2 => tb { D with nx := Pv (i + 1), ct := Pv (i + 1), bk := D.nx } σ2 H2) (hd : ∀ σ H, Pv kvs.length σ H → D.nx σ H) : tFor (fun _ H R => R (Itk d o kvs) H) g tb D σ H :=
  for_it walk_keys Pv h0 hl (fun i x σ H H' hi hp hy => by
    obtain ⟨rfl, k, v, hk, rfl⟩ := hy
    exact hs i (k, v) σ _ hk hp) hd
theorem unlock_same {d : Addr} {u : HO} {od : Obj} (hd : H d = some u) (s : Same (upd H d (.frz od u)) H') : Same H (upd H' d u) := fun b o e => by
  by_cases c : b = d
  · rw [c] at e ⊢
    rw [upd_same, ← hd, e]
  · rw [upd_ne c]
    exact s _ _ (by rw [upd_ne c]; exact e)
theorem lock_ne {d b : Addr} {u o : HO} {od : Obj} (n : b ≠ d) (e : H b = some o) : upd H d (.frz od u) b = some o := by rw [upd_ne n]; exact e
theorem dget_f {d : Addr} {kvs : List (Key × V)} {k : Key} {od : Obj} (e : H d = some (.frz od (.dK kvs))) : DGet H d (kV k) (valV kvs k) := .inl ⟨kvs, k, .inr ⟨od, e⟩, rfl, rfl⟩
end
end Lk

set_option Elab.async false
set_option linter.all false
set_option maxRecDepth 100000
set_option maxHeartbeats 4000000
namespace K40S
open PySem PySem.Spec PyProof.Rows L2 Rd Dt Dq Pk Ln En Sx Sy So Sr Lk
local macro_rules | `(tactic| walk_at "rd") => `(tactic| try simp only [↓Lk.tLockE_, ↓Lk.tLock_, ↓Lk.tLc_keys, ↓Lk.tFor_keys, ↓Sy.tTupP_, ↓Sy.rTupP_, ↓Sy.rCatP_, ↓Sy.rSlP_, ↓Sy.rDictT_, ↓Sy.tDGet_, ↓Sy.tDGet1_, ↓Sy.tDIn_, ↓Sy.tDNotIn_, ↓Sy.tMeth_, ↓Sy.tMethKw_, ↓Sy.rSortedS_, ↓Sx.rIsT_, ↓En.tFor_enumT, ↓Sy.tFor_enumL, ↓Rv.tMakeKw_, ↓Prp.tProp_, ↓Lo.tBits_, ↓Lo.tJs_n, ↓Lo.tJs_c, ↓Lo.tFmt_, ↓Lo.gFld_, ↓Lo.tMake_, ↓Lo.rOwn_, ↓Rg.tFor_range3, ↓Rg.tLc_range3, ↓Rg.tLstC_, ↓Rg.tLc_rngV, ↓Le.rNeLE_, ↓Le.rEqLE_, ↓Ls.tLc_str, ↓Ls.sDPut_, ↓Rl.rReprL_, ↓Rl.tCallKS_, ↓Ob.tFld_, ↓Ob.sFld_, ↓tVar_, ↓tC_, ↓tM1, ↓tDNewK_, ↓tOp_, ↓tUn_, ↓rI_, ↓rI0_, ↓rU_, ↓eq_ii, ↓ne_ii, ↓eq_ss, ↓ne_ss, ↓eq_bb, ↓ne_bb, ↓tAndV_, ↓tOrV_, ↓tNotV_, ↓tIf_, ↓tTest_, ↓tB_, ↓tAnd_, ↓tOr_, ↓tNot_, ↓tChain_, ↓tNil_, ↓tCons_, ↓tTup_, ↓tLst_, ↓tCB_, ↓tCall_, ↓tSeq_, ↓tNext_, ↓tRet_, ↓tRetN_, ↓tDrop_, ↓tBreak_, ↓tNever_, ↓tIfS_, ↓tAsg_, ↓gName_, ↓gTup_, ↓gCons_, ↓gNil_, ↓gSub_, ↓tPar_, ↓tPar3_, ↓tSl_, ↓tNoPart_, ↓tPart_, ↓tBM_, ↓tFor_range1, ↓tFor_range2, ↓tFor_list, ↓tFor_tup, L2.start, List.headD_cons, List.headD_nil, List.tail_cons, List.map_cons, List.map_nil, List.length_cons, List.length_nil, List.replicate, List.append_nil, List.nil_append, List.cons_append, List.getElem?_cons_zero, List.getElem?_cons_succ, List.set_cons_zero, List.set_cons_succ, Option.some.injEq, V.int.injEq, V.bl.injEq, V.str.injEq, V.ref.injEq, exists_eq_left, exists_eq_left', exists_eq_right, exists_eq, exists_and_left, and_true, true_and, decide_eq_true_eq, Nat.reduceAdd, Nat.reduceSub, Nat.add_zero, Nat.zero_add, List.cons.injEq, Bool.not_eq_true', decide_eq_false_iff_not, eq_self, reduceCtorEq, Bool.false_eq_true, if_true, if_false, ite_true, ite_false, and_self, ↓tLc_range1, ↓tLc_range2, ↓tLc_list, ↓tLc_tup, ↓tYes_, wipe0, wipe1, ↓tCallS_, ↓rIxL_, ↓rIxT_, ↓rSlL_, ↓rCat_, ↓rSetL_, ↓rRep_, ↓rGcd_, ↓tCallK_, ↓gUnl_, ↓tRaise_, decide_true, decide_false, not_true_eq_false, not_false_eq_true, false_and, or_false, false_or, and_false, and_assoc, exists_const, forall_const, forall_eq'])
section
variable {P : Program} {w : World} {K : PySem.W.Frag} {mg : Str → Option Value} {base : Heap}
/-! ### a told part is right -/
structure MtC (P : Program) (w : World) (K : PySem.W.Frag) (mg : Str → Option Value) (base : Heap) (C : Addr) (m : Str) (lv : Nat) (ps ks : List Str) (sp : Sp) (f : Addr) (fd : FuncData) : Prop where
  m : Meth K C m f
  F : FnOk P w K mg base CX0 lv f fd ps sp
  b : Binds K fd ps []
structure MtS (P : Program) (w : World) (K : PySem.W.Frag) (mg : Str → Option Value) (base : Heap) (C a3 : Addr) (d3 : FuncData) : Prop where
  gone : MtC P w K mg base C "is_gone" 4 ["self", "place"] ["place"] (spGone K C) a3 d3
def spPR (K : PySem.W.Frag) (C : Addr) : Sp := fun vs H Q _ => ∃ (m : Nat) (r a dn dc : Addr) (ns ds : List (Nat × Nat)), vs = [.ref r, .ref a] ∧ StA K C H r ns (srt ds) ∧ LSt m H a dn dc ns ds ∧ m ≤ 10 ∧ ∀ H', Same H H' → Q (.bl true) H'
/-- numbers, grown -/
def nuP (H : Hp) (l : List Nat) (D : Addr) (j : Nat) (H' : Hp) : Prop := Same H H' ∧ H' D = some (.lst ((l.take j).map vN))
theorem nuP_step {H H' : Hp} {l : List Nat} {D : Addr} {j x : Nat} (hl : l.length ≤ 1000) (h : nuP H l D j H') (hD : H D = none) (e : l[j]? = some x) : ∃ acc, H' D = some (.lst acc) ∧ acc.length < sizeLine ∧ nuP H l D (j + 1) (upd H' D (.lst (acc ++ [vN x]))) := by
  obtain ⟨hs, hL⟩ := h
  have zl : (1000000 : Nat) ≤ sizeLine := line_big
  have tl : (l.take j).length ≤ l.length := List.length_take_le' _ _
  refine ⟨_, hL, by rw [List.length_map]; omega, fun c o q => ?_, ?_⟩
  · rw [upd_ne (ne_of_none q hD)]; exact hs _ _ q
  · rw [upd_same, List.take_succ, e, List.map_append]; rfl
theorem gone_eq (ns ds : List (Nat × Nat)) (p : Nat) : goneB ns (srt ds) p = (decide (p ∈ ns.map (·.2) ++ ds.map (·.2)) && (!decide (p = 0) && (look ds p).isNone)) := by
  unfold goneB
  have e1 : (look (srt ds) p).isNone = (look ds p).isNone := by
    rw [Bool.eq_iff_iff, Option.isNone_iff_eq_none, Option.isNone_iff_eq_none, Sr.look_none, Sr.look_none]
    exact ⟨fun h c hc => h c ((srt_perm ds).mem_iff.mpr hc), fun h c hc => h c ((srt_perm ds).mem_iff.mp hc)⟩
  have e2 : (ns.any (fun n => decide (n.2 = p)) || (srt ds).any (fun c => decide (c.2 = p))) = decide (p ∈ ns.map (·.2) ++ ds.map (·.2)) := by
    rw [Bool.eq_iff_iff, Bool.or_eq_true, decide_eq_true_eq, List.any_eq_true, List.any_eq_true, List.mem_append, List.mem_map, List.mem_map]
    simp only [decide_eq_true_eq, (srt_perm ds).mem_iff]
  rw [e1, e2]
  cases decide (p = 0) <;> cases (look ds p).isNone <;> cases decide (p ∈ ns.map (·.2) ++ ds.map (·.2)) <;> rfl
theorem inV_N (c : Nat) (fs : List Nat) : inV (.int (c : Int)) (fs.map vN) = decide (c ∈ fs) := by
  unfold inV
  rw [List.any_map, Bool.eq_iff_iff, List.any_eq_true, decide_eq_true_eq]
  constructor
  · rintro ⟨x, hx, e⟩
    have e2 : (x : Int) = c := by simpa [eqV] using e
    rw [← Int.ofNat.inj e2]
    exact hx
  · intro hx
    exact ⟨c, hx, by simp [eqV]⟩
end
end K40S

set_option Elab.async false
set_option linter.all false
set_option maxRecDepth 100000
set_option maxHeartbeats 4000000
namespace K40S
open PySem PySem.Spec PyProof.Rows L2 Rd Dt Dq Pk Ln En Sx Sy So Sr Lk
local macro_rules | `(tactic| walk_at "rd") => `(tactic| try simp only [↓Lk.tLockE_, ↓Lk.tLock_, ↓Lk.tLc_keys, ↓Lk.tFor_keys, ↓Sy.tTupP_, ↓Sy.rTupP_, ↓Sy.rCatP_, ↓Sy.rSlP_, ↓Sy.rDictT_, ↓Sy.tDGet_, ↓Sy.tDGet1_, ↓Sy.tDIn_, ↓Sy.tDNotIn_, ↓Sy.tMeth_, ↓Sy.tMethKw_, ↓Sy.rSortedS_, ↓Sx.rIsT_, ↓En.tFor_enumT, ↓Sy.tFor_enumL, ↓Rv.tMakeKw_, ↓Prp.tProp_, ↓Lo.tBits_, ↓Lo.tJs_n, ↓Lo.tJs_c, ↓Lo.tFmt_, ↓Lo.gFld_, ↓Lo.tMake_, ↓Lo.rOwn_, ↓Rg.tFor_range3, ↓Rg.tLc_range3, ↓Rg.tLstC_, ↓Rg.tLc_rngV, ↓Le.rNeLE_, ↓Le.rEqLE_, ↓Ls.tLc_str, ↓Ls.sDPut_, ↓Rl.rReprL_, ↓Rl.tCallKS_, ↓Ob.tFld_, ↓Ob.sFld_, ↓tVar_, ↓tC_, ↓tM1, ↓tDNewK_, ↓tOp_, ↓tUn_, ↓rI_, ↓rI0_, ↓rU_, ↓eq_ii, ↓ne_ii, ↓eq_ss, ↓ne_ss, ↓eq_bb, ↓ne_bb, ↓tAndV_, ↓tOrV_, ↓tNotV_, ↓tIf_, ↓tTest_, ↓tB_, ↓tAnd_, ↓tOr_, ↓tNot_, ↓tChain_, ↓tNil_, ↓tCons_, ↓tTup_, ↓tLst_, ↓tCB_, ↓tCall_, ↓tSeq_, ↓tNext_, ↓tRet_, ↓tRetN_, ↓tDrop_, ↓tBreak_, ↓tNever_, ↓tIfS_, ↓tAsg_, ↓gName_, ↓gTup_, ↓gCons_, ↓gNil_, ↓gSub_, ↓tPar_, ↓tPar3_, ↓tSl_, ↓tNoPart_, ↓tPart_, ↓tBM_, ↓tFor_range1, ↓tFor_range2, ↓tFor_list, ↓tFor_tup, L2.start, List.headD_cons, List.headD_nil, List.tail_cons, List.map_cons, List.map_nil, List.length_cons, List.length_nil, List.replicate, List.append_nil, List.nil_append, List.cons_append, List.getElem?_cons_zero, List.getElem?_cons_succ, List.set_cons_zero, List.set_cons_succ, Option.some.injEq, V.int.injEq, V.bl.injEq, V.str.injEq, V.ref.injEq, exists_eq_left, exists_eq_left', exists_eq_right, exists_eq, exists_and_left, and_true, true_and, decide_eq_true_eq, Nat.reduceAdd, Nat.reduceSub, Nat.add_zero, Nat.zero_add, List.cons.injEq, Bool.not_eq_true', decide_eq_false_iff_not, eq_self, reduceCtorEq, Bool.false_eq_true, if_true, if_false, ite_true, ite_false, and_self, ↓tLc_range1, ↓tLc_range2, ↓tLc_list, ↓tLc_tup, ↓tYes_, wipe0, wipe1, ↓tCallS_, ↓rIxL_, ↓rIxT_, ↓rSlL_, ↓rCat_, ↓rSetL_, ↓rRep_, ↓rGcd_, ↓tCallK_, ↓gUnl_, ↓tRaise_, decide_true, decide_false, not_true_eq_false, not_false_eq_true, false_and, or_false, false_or, and_false, and_assoc, exists_const, forall_const, forall_eq'])
section
variable {P : Program} {w : World} {K : PySem.W.Frag} {mg : Str → Option Value} {base : Heap}
theorem sc_md : FnScope ["_law_mine", "_law_heads", "_law_sign", "_law_spot"] ["_law_mine"] (defScope (top 47)) := ⟨rfl, rfl, rfl, by decide +kernel, rfl, by decide +kernel, by decide +kernel⟩
theorem ok_md {f C fi : Addr} {fd fdI : FuncData} (T : Tx mg) (L : StM K mg C fi) (F : FD K "_law_store" (top 47) f fd) (F_init : FnOk P w K mg base CX0 5 fi fdI ["self", "names", "cells"] (spInit K C)) (b_init : Binds K fdI ["self", "names", "cells"] []) :
    FnOk P w K mg base CX0 7 f fd ["_law_mine"] (spMade K C) := by
  refine F.ok sc_md (fun vs H Q E h => ?_) (fun cdv A outer s H vs Q E hr h => ?_)
  · obtain ⟨_, _, _, _, _, _, rfl, _⟩ := h
    rfl
  · obtain ⟨m, a, dn, dc, ns, ds, rfl, ⟨ha, hdn, hdc, okn, okd⟩, hm, k⟩ := h
    have nd := sc_md.nd
    have zl : (1000000 : Nat) ≤ sizeLine := line_big
    have ln := okn.2.1
    have okc := okd.cl hm
    have lc := okd.1
    refine ⟨_, (pss_cons (ps_set (i := 1) nd rfl (Or.inl rfl) (pe_callTy (En.call_tupP (K := K) rfl) (by rfl) T.b_tuple (by decide +kernel) (pa_cons (pe_lc (own := [("_law_sign", 2)]) rfl nd (pi_list (pe_callB (call_sortedD rfl) (by rfl) T.b_sorted (by decide +kernel) (pa_cons (pe_ix (r := rIxL K) ix_list (pv 0) pe_int (fun _ _ => rfl)) pa_nil))) (blkOk_by (N := ["_law_mine", "_law_heads", "_law_sign", "_law_spot"]) (sc := defScope (top 47)) (by decide +kernel)) (fun _ _ _ _ _ => (pg_name (i := 2) nd rfl (Or.inl rfl))) (fun _ _ _ _ _ => pts_nil) (fun _ _ _ _ _ => (pe_tup (pa_cons (pv 2) (pa_cons (pe_dget (hu_of hr) (pe_ix (r := rIxL K) ix_list (pv 0) pe_int (fun _ _ => rfl)) (pv 2) (fun _ _ => rfl)) pa_nil))))) pa_nil)))
        (pss_one (ps_ret (pe_make L.mkr F_init (hr.mono (by omega)) rfl L.g b_init .nil pass0 (pa_cons (pv 1) (pa_cons (pe_callTy (En.call_tupP (K := K) rfl) (by rfl) T.b_tuple (by decide +kernel) (pa_cons (pe_lc (own := [("_law_spot", 3)]) rfl nd (pi_list (pe_callB (call_sortedDI rfl) (by rfl) T.b_sorted (by decide +kernel) (pa_cons (pe_ix (r := rIxL K) ix_list (pv 0) pe_int (fun _ _ => rfl)) pa_nil))) (blkOk_by (N := ["_law_mine", "_law_heads", "_law_sign", "_law_spot"]) (sc := defScope (top 47)) (by decide +kernel)) (fun _ _ _ _ _ => (pg_name (i := 3) nd rfl (Or.inl rfl))) (fun _ _ _ _ _ => pts_nil) (fun _ _ _ _ _ => (pe_tup (pa_cons (pv 3) (pa_cons (pe_dget (hu_of hr) (pe_ix (r := rIxL K) ix_list (pv 0) pe_int (fun _ _ => rfl)) (pv 3) (fun _ _ => rfl)) pa_nil))))) pa_nil)) pa_nil)))))), ?_⟩
    refine sq fun U hU => ?_
    walk_at "rd"
    refine ⟨_, SqL.of ha, _, rfl, dn, rfl, _, .inl hdn, _, keys_n ns, by rw [List.length_map]; omega, fun ys p py sy hp => ?_⟩
    rw [sorted_names okn py sy]
    have s1 : Same H (upd H p (.lst ((ns.map fun n => L1 n.1).map V.str))) := same_new hp
    have f1 : upd H p (.lst ((ns.map fun n => L1 n.1).map V.str)) p = some (.lst ((ns.map fun n => L1 n.1).map V.str)) := upd_same
    generalize upd H p (.lst ((ns.map fun n => L1 n.1).map V.str)) = H1 at s1 f1 ⊢
    refine ⟨⟨_, SqL.of f1⟩, lc_l (xs := (ns.map fun n => L1 n.1).map V.str) (pairP K H1 (ns.map nk)) fun D hD => ⟨pairP_0 hD, fun j H6 _ hP => SqL.of (hP.1 _ _ f1), ?_, ?_⟩⟩
    · rintro j y H6 hy hP
      obtain ⟨x, hx, rfl⟩ := map_at hy
      obtain ⟨n, hn, rfl⟩ := map_at hx
      unfold Lturn
      walk_at "rd"
      exact ⟨_, SqL.of (hP.1 _ _ (s1 _ _ ha)), _, rfl, dn, rfl, _, get_n (hP.1 _ _ (s1 _ _ hdn)) okn.2.2.2 (List.mem_of_getElem? hn), by omega, fun N hN => pairP_step (kv := nk n) (by rw [List.length_map]; omega) hP hD (by rw [List.getElem?_map, hn]; rfl) hN rfl rfl⟩
    · rintro H6 ⟨hs, zs, hL, hP⟩
      rw [List.length_map, List.length_map, List.take_of_length_le (by rw [List.length_map]; exact Nat.le_refl _)] at hP
      refine ⟨D, rfl, zs, SqL.of hL, fun l o hl ho => hU _ _ ?_⟩
      clear hU
      have s7 : Same H6 (upd H6 l (.frz o (.tup zs))) := same_new hl
      have hnl : PrsAt K (upd H6 l (.frz o (.tup zs))) l (ns.map nk) := ⟨zs, .new ho, hP.up s7⟩
      have s07 := s1.trans (hs.trans s7)
      generalize upd H6 l (.frz o (.tup zs)) = H7 at s7 hnl s07 ⊢
      walk_at "rd"
      refine ⟨_, SqL.of (s07 _ _ ha), _, rfl, dc, rfl, _, .inl (s07 _ _ hdc), _, keys_c ds, by rw [List.length_map]; omega, fun ys p py sy hp => ?_⟩
      rw [srt_keys py sy]
      have s8 : Same H7 (upd H7 p (.lst (((srt ds).map fun d => (d.1 : Int)).map V.int))) := same_new hp
      have f8 : upd H7 p (.lst (((srt ds).map fun d => (d.1 : Int)).map V.int)) p = some (.lst (((srt ds).map fun d => (d.1 : Int)).map V.int)) := upd_same
      generalize upd H7 p (.lst (((srt ds).map fun d => (d.1 : Int)).map V.int)) = H8 at s8 f8 ⊢
      have s08 := s07.trans s8
      refine ⟨⟨_, SqL.of f8⟩, lc_l (xs := ((srt ds).map fun d => (d.1 : Int)).map V.int) (pairP K H8 ((srt ds).map ck)) fun D2 hD2 => ⟨pairP_0 hD2, fun j H9 _ hP => SqL.of (hP.1 _ _ f8), ?_, ?_⟩⟩
      · rintro j y H9 hy hP
        obtain ⟨x, hx, rfl⟩ := map_at hy
        obtain ⟨c, hc, rfl⟩ := map_at hx
        have s09 := s08.trans hP.1
        unfold Lturn
        walk_at "rd"
        exact ⟨_, SqL.of (s09 _ _ ha), _, rfl, dc, rfl, _, get_d (s09 _ _ hdc) okd.2.2 ((srt_perm ds).mem_iff.mp (List.mem_of_getElem? hc)), by omega, fun N hN => pairP_step (kv := ck c) (by rw [List.length_map, srt_len]; omega) hP hD2 (by rw [List.getElem?_map, hc]; rfl) hN rfl rfl⟩
      · rintro H9 ⟨hs9, ws, hL9, hP9⟩
        rw [List.length_map, List.length_map, List.take_of_length_le (by rw [List.length_map]; exact Nat.le_refl _)] at hP9
        refine ⟨D2, rfl, ws, SqL.of hL9, fun l2 o2 hl2 ho2 x dx hx hdx hne => ?_⟩
        have sl : Same H9 (upd H9 l2 (.frz o2 (.tup ws))) := same_new hl2
        have hcl : PrsAt K (upd H9 l2 (.frz o2 (.tup ws))) l2 ((srt ds).map ck) := ⟨ws, .new ho2, hP9.up sl⟩
        have hn2 : PrsAt K (upd H9 l2 (.frz o2 (.tup ws))) l (ns.map nk) := hnl.up (s8.trans (hs9.trans sl))
        generalize upd H9 l2 (.frz o2 (.tup ws)) = H10 at sl hcl hn2 hx hdx ⊢
        have ms := fun (H4 : Hp) (b4 : But x (upd (upd H10 dx (.own x)) x (.ins C dx [])) H4) => make_same hx hdx b4
        exact ⟨x, _, l, l2, ns, _, rfl, upd_same, PrsAt.make hx hdx hn2, PrsAt.make hx hdx hcl, okn, okc, fun H4 b4 st => ⟨rfl, k x H4 (s08.trans (hs9.trans (sl.trans (ms H4 b4)))) st⟩⟩
end
end K40S

set_option Elab.async false
set_option linter.all false
set_option maxRecDepth 100000
set_option maxHeartbeats 2000000
/-! d != {} -/
namespace De
open PySem PySem.Spec PyProof.Rows L2
section
variable {K : PySem.W.Frag} {σ : L2.St} {H H' : Hp} {ta : TE} {g : TG} {tb : TS} {D : Ends}
theorem tFor_str : tFor (iStr ta) g tb D σ H = ta σ H fun v H1 => ∃ x, v = .str x ∧ tFor (fun _ H R => R (Its x) H) g tb D σ H1 := rfl
theorem for_s {z : Str} (Pv : Nat → L2.St → Hp → Prop) (h0 : Pv 0 σ H) (hs : ∀ i c σ H, z.cps.toList[i]? = some c → Pv i σ H → g (.str ⟨#[c]⟩) σ H fun σ2 H2 => tb { D with nx := Pv (i + 1), ct := Pv (i + 1), bk := D.nx } σ2 H2) (hd : ∀ σ H, Pv z.cps.toList.length σ H → D.nx σ H) :
    tFor (fun _ H R => R (Its z) H) g tb D σ H := for_it walk_str Pv h0 (fun _ _ _ _ _ => trivial) (fun i x σ H H' hi hp hy => by
      obtain ⟨e, c, hc, hx⟩ := hy
      subst e hx
      exact hs i c σ _ (by rw [Array.getElem?_toList]; exact hc) hp) (fun σ H h => hd σ H (by simpa using h))
end
def rNeDE : R2 := fun x y H Q => ∃ a b ks, x = .ref a ∧ y = .ref b ∧ H a = some (.dK ks) ∧ H b = some (.dK []) ∧ Q (.bl (!ks.isEmpty)) H
theorem op_neDE {X : Cx} (hu : X.A.units < cLine) : OpR X (compareOp .NotEq) rNeDE := by
  intro pins s σ H x y v u Q I rx ry h
  obtain ⟨a, b, ks, rfl, rfl, ea, eb, q⟩ := h
  obtain rfl : v = Value.ref a := rx
  obtain rfl : u = Value.ref b := ry
  obtain ⟨_, ya, va, ra, da⟩ := (show ObjOk X.prog X.w H s.heap a (.dK ks) from I.hok a _ ea)
  obtain ⟨_, yb, vb, rb, db⟩ := (show ObjOk X.prog X.w H s.heap b (.dK []) from I.hok b _ eb)
  have lb : vb.length = 0 := by rw [← rb.length]; rfl
  have la : va.length = ks.length := ra.length.symm
  cases ks with
  | nil =>
    have la : va.length = 0 := la
    exact PySem.W.keq_ne (knd := mixKind X.prog X.w) (r := true) ya yb da db hu (fun _ => hits_all rb ra (fun p hp => nomatch hp)) (fin_bl I q (by simp [la, lb]))
  | cons k ks =>
    rw [List.length_cons] at la
    exact PySem.W.keq_ne (knd := mixKind X.prog X.w) (r := true) ya yb da db hu (fun e => absurd e (by omega)) (fin_bl I q (by simp [la, lb]))
end De

set_option Elab.async false
set_option linter.all false
set_option maxRecDepth 100000
set_option maxHeartbeats 4000000
namespace K40S
open PySem PySem.Spec PyProof.Rows L2 Rd Dt Dq Pk Ln En Sx Sy So Sr Lk
local macro_rules | `(tactic| walk_at "rd") => `(tactic| try simp only [↓Lk.tLockE_, ↓Lk.tLock_, ↓Lk.tLc_keys, ↓Lk.tFor_keys, ↓Sy.tTupP_, ↓Sy.rTupP_, ↓Sy.rCatP_, ↓Sy.rSlP_, ↓Sy.rDictT_, ↓Sy.tDGet_, ↓Sy.tDGet1_, ↓Sy.tDIn_, ↓Sy.tDNotIn_, ↓Sy.tMeth_, ↓Sy.tMethKw_, ↓Sy.rSortedS_, ↓Sx.rIsT_, ↓En.tFor_enumT, ↓Sy.tFor_enumL, ↓Rv.tMakeKw_, ↓Prp.tProp_, ↓Lo.tBits_, ↓Lo.tJs_n, ↓Lo.tJs_c, ↓Lo.tFmt_, ↓Lo.gFld_, ↓Lo.tMake_, ↓Lo.rOwn_, ↓Rg.tFor_range3, ↓Rg.tLc_range3, ↓Rg.tLstC_, ↓Rg.tLc_rngV, ↓Le.rNeLE_, ↓Le.rEqLE_, ↓Ls.tLc_str, ↓Ls.sDPut_, ↓Rl.rReprL_, ↓Rl.tCallKS_, ↓Ob.tFld_, ↓Ob.sFld_, ↓tVar_, ↓tC_, ↓tM1, ↓tDNewK_, ↓tOp_, ↓tUn_, ↓rI_, ↓rI0_, ↓rU_, ↓eq_ii, ↓ne_ii, ↓eq_ss, ↓ne_ss, ↓eq_bb, ↓ne_bb, ↓tAndV_, ↓tOrV_, ↓tNotV_, ↓tIf_, ↓tTest_, ↓tB_, ↓tAnd_, ↓tOr_, ↓tNot_, ↓tChain_, ↓tNil_, ↓tCons_, ↓tTup_, ↓tLst_, ↓tCB_, ↓tCall_, ↓tSeq_, ↓tNext_, ↓tRet_, ↓tRetN_, ↓tDrop_, ↓tBreak_, ↓tNever_, ↓tIfS_, ↓tAsg_, ↓gName_, ↓gTup_, ↓gCons_, ↓gNil_, ↓gSub_, ↓tPar_, ↓tPar3_, ↓tSl_, ↓tNoPart_, ↓tPart_, ↓tBM_, ↓tFor_range1, ↓tFor_range2, ↓tFor_list, ↓tFor_tup, L2.start, List.headD_cons, List.headD_nil, List.tail_cons, List.map_cons, List.map_nil, List.length_cons, List.length_nil, List.replicate, List.append_nil, List.nil_append, List.cons_append, List.getElem?_cons_zero, List.getElem?_cons_succ, List.set_cons_zero, List.set_cons_succ, Option.some.injEq, V.int.injEq, V.bl.injEq, V.str.injEq, V.ref.injEq, exists_eq_left, exists_eq_left', exists_eq_right, exists_eq, exists_and_left, and_true, true_and, decide_eq_true_eq, Nat.reduceAdd, Nat.reduceSub, Nat.add_zero, Nat.zero_add, List.cons.injEq, Bool.not_eq_true', decide_eq_false_iff_not, eq_self, reduceCtorEq, Bool.false_eq_true, if_true, if_false, ite_true, ite_false, and_self, ↓tLc_range1, ↓tLc_range2, ↓tLc_list, ↓tLc_tup, ↓tYes_, wipe0, wipe1, ↓tCallS_, ↓rIxL_, ↓rIxT_, ↓rSlL_, ↓rCat_, ↓rSetL_, ↓rRep_, ↓rGcd_, ↓tCallK_, ↓gUnl_, ↓tRaise_, decide_true, decide_false, not_true_eq_false, not_false_eq_true, false_and, or_false, false_or, and_false, and_assoc, exists_const, forall_const, forall_eq'])
section
variable {P : Program} {w : World} {K : PySem.W.Frag} {mg : Str → Option Value} {base : Heap}
theorem sc_shn : FnScope ["_law_mine", "_law_heads", "_law_tails", "_law_sign", "_law_spot"] ["_law_mine"] (defScope (top 48)) := ⟨rfl, rfl, rfl, by decide +kernel, rfl, by decide +kernel, by decide +kernel⟩
theorem ok_shn {f : Addr} {fd : FuncData} (T : Tx mg) (F : FD K "_law_shown" (top 48) f fd) : FnOk P w K mg base CX0 1 f fd ["_law_mine"] spTxt := by
  refine F.ok sc_shn (fun vs H Q E h => ?_) (fun cdv A outer s H vs Q E hr h => ?_)
  · obtain ⟨_, _, _, _, _, _, rfl, _⟩ := h
    rfl
  · obtain ⟨m, a, dn, dc, ns, ds, rfl, ⟨ha, hdn, hdc, okn, okd⟩, hm, k⟩ := h
    have nd := sc_shn.nd
    have zl : (1000000 : Nat) ≤ sizeLine := line_big
    refine ⟨_, (pss_cons (ps_set (i := 1) nd rfl (Or.inl rfl) (pe_join pe_str (pe_lc (own := [("_law_sign", 3)]) rfl nd (pi_list (pe_callB (call_sortedD rfl) (by rfl) T.b_sorted (by decide +kernel) (pa_cons (pe_ix (r := rIxL K) ix_list (pv 0) pe_int (fun _ _ => rfl)) pa_nil))) (blkOk_by (N := ["_law_mine", "_law_heads", "_law_tails", "_law_sign", "_law_spot"]) (sc := defScope (top 48)) (by decide +kernel)) (fun _ _ _ _ _ => (pg_name (i := 3) nd rfl (Or.inl rfl))) (fun _ _ _ _ _ => pts_nil) (fun _ _ _ _ _ => (pe_op op_add_str (pe_op op_add_str (pv 3) pe_str) (pe_callTy call_str_int (by rfl) T.b_str (by decide +kernel) (pa_cons (pe_dget (hu_of hr) (pe_ix (r := rIxL K) ix_list (pv 0) pe_int (fun _ _ => rfl)) (pv 3) (fun _ _ => rfl)) pa_nil)))))))
        (pss_cons (ps_set (i := 2) nd rfl (Or.inl rfl) (pe_join pe_str (pe_lc (own := [("_law_spot", 4)]) rfl nd (pi_list (pe_callB (call_sortedDI rfl) (by rfl) T.b_sorted (by decide +kernel) (pa_cons (pe_ix (r := rIxL K) ix_list (pv 0) pe_int (fun _ _ => rfl)) pa_nil))) (blkOk_by (N := ["_law_mine", "_law_heads", "_law_tails", "_law_sign", "_law_spot"]) (sc := defScope (top 48)) (by decide +kernel)) (fun _ _ _ _ _ => (pg_name (i := 4) nd rfl (Or.inl rfl))) (fun _ _ _ _ _ => pts_nil) (fun _ _ _ _ _ => (pe_op op_add_str (pe_op op_add_str (pe_callTy call_str_int (by rfl) T.b_str (by decide +kernel) (pa_cons (pv 4) pa_nil)) pe_str) (pe_callTy call_str_int (by rfl) T.b_str (by decide +kernel) (pa_cons (pe_dget (hu_of hr) (pe_ix (r := rIxL K) ix_list (pv 0) pe_int (fun _ _ => rfl)) (pv 4) (fun _ _ => rfl)) pa_nil)))))))
        (pss_one (ps_ret (pe_op op_add_str (pe_op op_add_str (pv 1) pe_str) (pe_ifExp (pt_cmpR (De.op_neDE (Nat.lt_of_succ_lt (hu_of hr))) (pe_ix (r := rIxL K) ix_list (pv 0) pe_int (fun _ _ => rfl)) pe_dnewK (nomark _)) (pv 2) pe_str)))))), ?_⟩
    refine sq fun U hU => ?_
    walk_at "rd"
    have ln := okn.2.1
    refine ⟨⟨_, rfl⟩, _, SqL.of ha, _, rfl, dn, rfl, _, .inl hdn, _, keys_n ns, by rw [List.length_map]; omega, fun ys p py sy hp => ?_⟩
    rw [sorted_names okn py sy]
    have s1 : Same H (upd H p (.lst ((ns.map fun n => L1 n.1).map V.str))) := same_new hp
    have f1 : upd H p (.lst ((ns.map fun n => L1 n.1).map V.str)) p = some (.lst ((ns.map fun n => L1 n.1).map V.str)) := upd_same
    generalize upd H p (.lst ((ns.map fun n => L1 n.1).map V.str)) = H1 at s1 f1 ⊢
    refine ⟨⟨_, SqL.of f1⟩, lc_l (xs := (ns.map fun n => L1 n.1).map V.str) (txP H1 nameW ns) fun D hD => ⟨⟨same_new hD, upd_same⟩, fun j H6 _ hP => SqL.of (hP.1 _ _ f1), ?_, ?_⟩⟩
    · rintro j y H6 hy hP
      obtain ⟨x, hx, rfl⟩ := map_at hy
      obtain ⟨n, hn, rfl⟩ := map_at hx
      obtain ⟨b1, b2, b3⟩ := okn.2.2.1 n (List.mem_of_getElem? hn)
      unfold Lturn
      walk_at "rd"
      have l1 := nlen b3
      have e1 : (L1 n.1).length = 1 := rfl
      have e2 : (Str.ofString "=").length = 1 := by decide
      have en : Str.ofString (toString (n.2 : Int)) = numT n.2 := rfl
      exact ⟨by omega, _, SqL.of (hP.1 _ _ (s1 _ _ ha)), _, rfl, dn, rfl, _, get_n (hP.1 _ _ (s1 _ _ hdn)) okn.2.2.2 (List.mem_of_getElem? hn), _, rfl, lg (by omega), by rw [Str.length_append, en]; omega, txP_step (by omega) hP hD hn _ rfl⟩
    · rintro H6 ⟨hs, hL⟩
      rw [List.length_map, List.length_map, List.take_length] at hL
      have es : (Str.ofString " ").length = 1 := by decide
      have s6 : Same H H6 := s1.trans hs
      have okc := okd.cl hm
      have lc := okd.1
      have h2 := sum_le (fun s : Str => s.length) 6 (ns.map nameW) (fun s hs' => by
        obtain ⟨n, hn, rfl⟩ := List.mem_map.mp hs'
        exact nameW_len (okn.2.2.1 n hn).2.2)
      rw [List.length_map] at h2
      have h4 := sum_le (fun s : Str => s.length) 9 ((srt ds).map cellW) (fun s hs' => by
        obtain ⟨n, hn, rfl⟩ := List.mem_map.mp hs'
        exact cellW_len (okc.2.1 n hn).2.1 (okc.2.1 n hn).2.2)
      rw [List.length_map, srt_len] at h4
      refine ⟨D, rfl, ns.map nameW, .inl (SqL.of hL), by rw [es, List.length_map]; omega, hU _ _ ?_⟩
      clear hU
      refine sq fun U hU => ?_
      walk_at "rd"
      refine ⟨⟨_, rfl⟩, _, SqL.of (s6 _ _ ha), _, rfl, dc, rfl, _, .inl (s6 _ _ hdc), _, keys_c ds, by rw [List.length_map]; omega, fun ys p py sy hp => ?_⟩
      rw [srt_keys py sy]
      have s7 : Same H6 (upd H6 p (.lst (((srt ds).map fun d => (d.1 : Int)).map V.int))) := same_new hp
      have f7 : upd H6 p (.lst (((srt ds).map fun d => (d.1 : Int)).map V.int)) p = some (.lst (((srt ds).map fun d => (d.1 : Int)).map V.int)) := upd_same
      generalize upd H6 p (.lst (((srt ds).map fun d => (d.1 : Int)).map V.int)) = H7 at s7 f7 ⊢
      refine ⟨⟨_, SqL.of f7⟩, lc_l (xs := ((srt ds).map fun d => (d.1 : Int)).map V.int) (txP H7 cellW (srt ds)) fun D2 hD2 => ⟨⟨same_new hD2, upd_same⟩, fun j H8 _ hP => SqL.of (hP.1 _ _ f7), ?_, ?_⟩⟩
      · rintro j y H8 hy hP
        obtain ⟨x, hx, rfl⟩ := map_at hy
        obtain ⟨c, hc, rfl⟩ := map_at hx
        obtain ⟨b1, b2, b3⟩ := okc.2.1 c (List.mem_of_getElem? hc)
        have s8 := s6.trans (s7.trans hP.1)
        unfold Lturn
        walk_at "rd"
        have l1 := nlen b2
        have l2 := nlen b3
        have e2 : (Str.ofString ">").length = 1 := by decide
        have en1 : Str.ofString (toString (c.1 : Int)) = numT c.1 := rfl
        have en2 : Str.ofString (toString (c.2 : Int)) = numT c.2 := rfl
        have mc := List.mem_of_getElem? hc
        refine ⟨lg (by omega), by rw [en1]; omega, _, SqL.of (s8 _ _ ha), _, rfl, dc, rfl, _, get_d (s8 _ _ hdc) okd.2.2 ((srt_perm ds).mem_iff.mp mc), _, rfl, lg (by omega), by rw [Str.length_append, en1, en2]; omega, txP_step okc.1 hP hD2 hc _ rfl⟩
      · rintro H8 ⟨hs8, hL8⟩
        rw [List.length_map, List.length_map, List.take_length] at hL8
        refine ⟨D2, rfl, (srt ds).map cellW, .inl (SqL.of hL8), by rw [es, List.length_map, srt_len]; omega, hU _ _ ?_⟩
        clear hU
        have s8 : Same H H8 := s6.trans (s7.trans hs8)
        walk_at "rd"
        have sl := storeT_len okn okc
        have sl2 : (Txt.join (Str.ofString " ") (ns.map nameW)).length + (Str.ofString " | ").length + (cellsT (srt ds)).length ≤ 5040 := by
          rw [← Str.length_append, ← Str.length_append]
          exact sl
        refine ⟨by omega, _, SqL.of (s8 _ _ ha), _, rfl, fun p hp => ⟨dc, p, ds.map ck, rfl, rfl, same_new hp _ _ (s8 _ _ hdc), upd_same, _, rfl, ?_⟩⟩
        have e0 : (ds.map ck).isEmpty = (srt ds).isEmpty := by
          rw [List.isEmpty_map]
          have l := srt_len ds
          rw [Bool.eq_iff_iff, List.isEmpty_iff_length_eq_zero, List.isEmpty_iff_length_eq_zero]
          omega
        have kk := k _ (s8.trans (same_new (o := .dK []) hp))
        by_cases ce : srt ds = []
        · have ec : cellsT (srt ds) = "none" := if_pos ce
          rw [e0, ce, if_neg (by decide)]
          rw [ec] at sl2
          refine ⟨by rw [Str.length_append]; exact Nat.le_trans sl2 (by omega), ?_⟩
          have : storeT ns (srt ds) = Txt.join (Str.ofString " ") (ns.map nameW) ++ Str.ofString " | " ++ Str.ofString "none" := by
            unfold storeT
            rw [ec]
            rfl
          rw [← this]
          exact kk
        · have ec : cellsT (srt ds) = Txt.join " " ((srt ds).map cellW) := if_neg ce
          rw [e0, if_pos (by cases h : srt ds with
            | nil => exact absurd h ce
            | cons _ _ => rfl)]
          rw [ec] at sl2
          refine ⟨by rw [Str.length_append]; exact Nat.le_trans sl2 (by omega), ?_⟩
          have : storeT ns (srt ds) = Txt.join (Str.ofString " ") (ns.map nameW) ++ Str.ofString " | " ++ Txt.join (Str.ofString " ") ((srt ds).map cellW) := by
            unfold storeT
            rw [ec]
            rfl
          rw [← this]
          exact kk
end
end K40S

set_option Elab.async false
set_option linter.all false
set_option maxRecDepth 100000
set_option maxHeartbeats 4000000
namespace K40S
open PySem PySem.Spec PyProof.Rows L2 Rd Dt Dq Pk Ln En Sx Sy So Sr Lk
local macro_rules | `(tactic| walk_at "rd") => `(tactic| try simp only [↓Lk.tLockE_, ↓Lk.tLock_, ↓Lk.tLc_keys, ↓Lk.tFor_keys, ↓Sy.tTupP_, ↓Sy.rTupP_, ↓Sy.rCatP_, ↓Sy.rSlP_, ↓Sy.rDictT_, ↓Sy.tDGet_, ↓Sy.tDGet1_, ↓Sy.tDIn_, ↓Sy.tDNotIn_, ↓Sy.tMeth_, ↓Sy.tMethKw_, ↓Sy.rSortedS_, ↓Sx.rIsT_, ↓En.tFor_enumT, ↓Sy.tFor_enumL, ↓Rv.tMakeKw_, ↓Prp.tProp_, ↓Lo.tBits_, ↓Lo.tJs_n, ↓Lo.tJs_c, ↓Lo.tFmt_, ↓Lo.gFld_, ↓Lo.tMake_, ↓Lo.rOwn_, ↓Rg.tFor_range3, ↓Rg.tLc_range3, ↓Rg.tLstC_, ↓Rg.tLc_rngV, ↓Le.rNeLE_, ↓Le.rEqLE_, ↓Ls.tLc_str, ↓Ls.sDPut_, ↓Rl.rReprL_, ↓Rl.tCallKS_, ↓Ob.tFld_, ↓Ob.sFld_, ↓tVar_, ↓tC_, ↓tM1, ↓tDNewK_, ↓tOp_, ↓tUn_, ↓rI_, ↓rI0_, ↓rU_, ↓eq_ii, ↓ne_ii, ↓eq_ss, ↓ne_ss, ↓eq_bb, ↓ne_bb, ↓tAndV_, ↓tOrV_, ↓tNotV_, ↓tIf_, ↓tTest_, ↓tB_, ↓tAnd_, ↓tOr_, ↓tNot_, ↓tChain_, ↓tNil_, ↓tCons_, ↓tTup_, ↓tLst_, ↓tCB_, ↓tCall_, ↓tSeq_, ↓tNext_, ↓tRet_, ↓tRetN_, ↓tDrop_, ↓tBreak_, ↓tNever_, ↓tIfS_, ↓tAsg_, ↓gName_, ↓gTup_, ↓gCons_, ↓gNil_, ↓gSub_, ↓tPar_, ↓tPar3_, ↓tSl_, ↓tNoPart_, ↓tPart_, ↓tBM_, ↓tFor_range1, ↓tFor_range2, ↓tFor_list, ↓tFor_tup, L2.start, List.headD_cons, List.headD_nil, List.tail_cons, List.map_cons, List.map_nil, List.length_cons, List.length_nil, List.replicate, List.append_nil, List.nil_append, List.cons_append, List.getElem?_cons_zero, List.getElem?_cons_succ, List.set_cons_zero, List.set_cons_succ, Option.some.injEq, V.int.injEq, V.bl.injEq, V.str.injEq, V.ref.injEq, exists_eq_left, exists_eq_left', exists_eq_right, exists_eq, exists_and_left, and_true, true_and, decide_eq_true_eq, Nat.reduceAdd, Nat.reduceSub, Nat.add_zero, Nat.zero_add, List.cons.injEq, Bool.not_eq_true', decide_eq_false_iff_not, eq_self, reduceCtorEq, Bool.false_eq_true, if_true, if_false, ite_true, ite_false, and_self, ↓tLc_range1, ↓tLc_range2, ↓tLc_list, ↓tLc_tup, ↓tYes_, wipe0, wipe1, ↓tCallS_, ↓rIxL_, ↓rIxT_, ↓rSlL_, ↓rCat_, ↓rSetL_, ↓rRep_, ↓rGcd_, ↓tCallK_, ↓gUnl_, ↓tRaise_, decide_true, decide_false, not_true_eq_false, not_false_eq_true, false_and, or_false, false_or, and_false, and_assoc, exists_const, forall_const, forall_eq'])
section
variable {P : Program} {w : World} {K : PySem.W.Frag} {mg : Str → Option Value} {base : Heap}
/-! ### stores under way -/
structure HpB (K : PySem.W.Frag) (C : Addr) : Prop where
  cl : Cls K C
  nN : NoAttr K C "names"
  nC : NoAttr K C "cells"
  nU : NoAttr K C "used"
  nM : NoAttr K C "made"
abbrev hf (d1 d2 d3 d4 : Addr) : List (Str × V) := [("names", .ref d1), ("cells", .ref d2), ("used", .ref d3), ("made", .ref d4)]
/-- a heap: names, cells, used and made places -/
def HpA (C : Addr) (H : Hp) (h : Addr) (ns cs us ms : List (Nat × Nat)) : Prop := ∃ (dx d1 d2 d3 d4 : Addr), H h = some (.ins C dx (hf d1 d2 d3 d4)) ∧ H d1 = some (.dK (ns.map nk)) ∧ H d2 = some (.dK (cs.map ck)) ∧ H d3 = some (.dK (us.map ck)) ∧ H d4 = some (.dK (ms.map ck)) ∧ [d1, d2, d3, d4].Nodup
theorem HpA.up {C : Addr} {H H' : Hp} (s : Same H H') {h : Addr} {ns cs us ms : List (Nat × Nat)} (g : HpA C H h ns cs us ms) : HpA C H' h ns cs us ms := by
  obtain ⟨dx, d1, d2, d3, d4, h1, h2, h3, h4, h5, h6⟩ := g
  exact ⟨dx, d1, d2, d3, d4, s _ _ h1, s _ _ h2, s _ _ h3, s _ _ h4, s _ _ h5, h6⟩
def spHI (K : PySem.W.Frag) (C : Addr) : Sp := fun vs H Q _ => ∃ (r dx an ac : Addr) (ns cs : List (Nat × Nat)), vs = [.ref r, .ref an, .ref ac] ∧ H r = some (.ins C dx []) ∧ PrsAt K H an (ns.map nk) ∧ PrsAt K H ac (cs.map ck) ∧ NmOk ns ∧ ClOk cs ∧
  ∀ H', But r H H' → HpA C H' r ns cs cs [] → Q .non H'
theorem sc_hin : FnScope ["self", "names", "cells"] ["self", "names", "cells"] (defScope (inClass (top 26) 0)) := ⟨rfl, rfl, rfl, by decide +kernel, rfl, by decide +kernel, by decide +kernel⟩
theorem ok_hin {f C : Addr} {fd : FuncData} {q : Str} (T : Tx mg) (W : HpB K C) (F : FM K "__init__" q (inClass (top 26) 0) f fd) : FnOk P w K mg base CX0 1 f fd ["self", "names", "cells"] (spHI K C) := by
  refine F.ok sc_hin (fun vs H Q E h => ?_) (fun cdv A outer s H vs Q E hr h => ?_)
  · obtain ⟨_, _, _, _, _, _, rfl, _⟩ := h
    rfl
  · obtain ⟨r, dx, an, ac, ns, cs, rfl, hr0, hn, hc, okn, okc, k⟩ := h
    have nd := sc_hin.nd
    refine ⟨_, (pss_cons (ps_fld (pv 0) (pe_callTy (En.call_dictT (K := K) rfl rfl) (by rfl) T.b_dict (by decide +kernel) (pa_cons (pv 1) pa_nil)) rfl)
        (pss_cons (ps_fld (pv 0) (pe_callTy (En.call_dictT (K := K) rfl rfl) (by rfl) T.b_dict (by decide +kernel) (pa_cons (pv 2) pa_nil)) rfl)
        (pss_cons (ps_fld (pv 0) (pe_callTy (En.call_dictT (K := K) rfl rfl) (by rfl) T.b_dict (by decide +kernel) (pa_cons (pv 2) pa_nil)) rfl)
        (pss_one (ps_fld (pv 0) pe_dnewK rfl))))), ?_⟩
    refine sq fun U hU => ?_
    walk_at "rd"
    obtain ⟨xs, pl, prs⟩ := id hn
    obtain ⟨ps, rfl, pp⟩ := prs.refs
    refine ⟨ps, pl, _, pp, fun d1 hd1 => ⟨C, dx, [], ⟨by rw [upd_ne (ne_of_none hr0 hd1)]; exact hr0, W.cl, W.nN, by decide⟩, hU _ _ ?_⟩⟩
    clear hU
    rw [merge_n okn.2.2.2]
    have nd1 : d1 ≠ r := fun z => by rw [z, hr0] at hd1; cases hd1
    have b1 : But r H (upd (upd H d1 (.dK (ns.map nk))) r (.ins C dx (putF (Str.ofString "names") (.ref d1) []))) := fun c o n e => by rw [upd_ne n, upd_ne (ne_of_none e hd1)]; exact e
    have hr1 : upd (upd H d1 (.dK (ns.map nk))) r (.ins C dx (putF (Str.ofString "names") (.ref d1) [])) r = some (.ins C dx [("names", .ref d1)]) := upd_same
    have e1 : upd (upd H d1 (.dK (ns.map nk))) r (.ins C dx (putF (Str.ofString "names") (.ref d1) [])) d1 = some (.dK (ns.map nk)) := by rw [upd_ne nd1, upd_same]
    generalize upd (upd H d1 (.dK (ns.map nk))) r (.ins C dx (putF (Str.ofString "names") (.ref d1) [])) = H1 at b1 hr1 e1 ⊢
    have hc1 := hc.but b1 hr0 ins_no
    clear pl prs pp hn
    refine sq fun U hU => ?_
    walk_at "rd"
    obtain ⟨xs, pl, prs⟩ := id hc1
    obtain ⟨ps, rfl, pp⟩ := prs.refs
    refine ⟨ps, pl, _, pp, fun d2 hd2 => ⟨C, dx, [("names", .ref d1)], ⟨by rw [upd_ne (ne_of_none hr1 hd2)]; exact hr1, W.cl, W.nC, show 1 < 1000 by decide⟩, hU _ _ ?_⟩⟩
    clear hU
    rw [merge_c okc.2.2]
    have nd2 : d2 ≠ r := fun z => by rw [z, hr1] at hd2; cases hd2
    have n12 : d1 ≠ d2 := ne_of_none e1 hd2
    have b2 : But r H1 (upd (upd H1 d2 (.dK (cs.map ck))) r (.ins C dx (putF (Str.ofString "cells") (.ref d2) [("names", .ref d1)]))) := fun c o n e => by rw [upd_ne n, upd_ne (ne_of_none e hd2)]; exact e
    have hr2 : upd (upd H1 d2 (.dK (cs.map ck))) r (.ins C dx (putF (Str.ofString "cells") (.ref d2) [("names", .ref d1)])) r = some (.ins C dx [("names", .ref d1), ("cells", .ref d2)]) := upd_same
    have e2 : upd (upd H1 d2 (.dK (cs.map ck))) r (.ins C dx (putF (Str.ofString "cells") (.ref d2) [("names", .ref d1)])) d2 = some (.dK (cs.map ck)) := by rw [upd_ne nd2, upd_same]
    generalize upd (upd H1 d2 (.dK (cs.map ck))) r (.ins C dx (putF (Str.ofString "cells") (.ref d2) [("names", .ref d1)])) = H2 at b2 hr2 e2 ⊢
    have hc2 : PrsAt K H2 ac (cs.map ck) := PrsAt.but b2 hr1 ins_no ⟨_, pl, prs⟩
    have e12 := b2 _ _ nd1 e1
    clear pl prs pp hc1
    refine sq fun U hU => ?_
    walk_at "rd"
    obtain ⟨xs, pl, prs⟩ := id hc2
    obtain ⟨ps, rfl, pp⟩ := prs.refs
    refine ⟨ps, pl, _, pp, fun d3 hd3 => ⟨C, dx, [("names", .ref d1), ("cells", .ref d2)], ⟨by rw [upd_ne (ne_of_none hr2 hd3)]; exact hr2, W.cl, W.nU, show 2 < 1000 by decide⟩, hU _ _ ?_⟩⟩
    clear hU
    rw [merge_c okc.2.2]
    have nd3 : d3 ≠ r := fun z => by rw [z, hr2] at hd3; cases hd3
    have n13 : d1 ≠ d3 := ne_of_none e12 hd3
    have n23 : d2 ≠ d3 := ne_of_none e2 hd3
    have b3 : But r H2 (upd (upd H2 d3 (.dK (cs.map ck))) r (.ins C dx (putF (Str.ofString "used") (.ref d3) [("names", .ref d1), ("cells", .ref d2)]))) := fun c o n e => by rw [upd_ne n, upd_ne (ne_of_none e hd3)]; exact e
    have hr3 : upd (upd H2 d3 (.dK (cs.map ck))) r (.ins C dx (putF (Str.ofString "used") (.ref d3) [("names", .ref d1), ("cells", .ref d2)])) r = some (.ins C dx [("names", .ref d1), ("cells", .ref d2), ("used", .ref d3)]) := upd_same
    have e3 : upd (upd H2 d3 (.dK (cs.map ck))) r (.ins C dx (putF (Str.ofString "used") (.ref d3) [("names", .ref d1), ("cells", .ref d2)])) d3 = some (.dK (cs.map ck)) := by rw [upd_ne nd3, upd_same]
    generalize upd (upd H2 d3 (.dK (cs.map ck))) r (.ins C dx (putF (Str.ofString "used") (.ref d3) [("names", .ref d1), ("cells", .ref d2)])) = H3 at b3 hr3 e3 ⊢
    have e13 := b3 _ _ nd1 e12
    have e23 := b3 _ _ nd2 e2
    clear pl prs pp hc2
    walk_at "rd"
    refine fun d4 hd4 => ⟨C, dx, [("names", .ref d1), ("cells", .ref d2), ("used", .ref d3)], ⟨by rw [upd_ne (ne_of_none hr3 hd4)]; exact hr3, W.cl, W.nM, show 3 < 1000 by decide⟩, ?_⟩
    have nd4 : d4 ≠ r := fun z => by rw [z, hr3] at hd4; cases hd4
    have n14 : d1 ≠ d4 := ne_of_none e13 hd4
    have n24 : d2 ≠ d4 := ne_of_none e23 hd4
    have n34 : d3 ≠ d4 := ne_of_none e3 hd4
    have b4 : But r H3 (upd (upd H3 d4 (.dK [])) r (.ins C dx (putF (Str.ofString "made") (.ref d4) [("names", .ref d1), ("cells", .ref d2), ("used", .ref d3)]))) := fun c o n e => by rw [upd_ne n, upd_ne (ne_of_none e hd4)]; exact e
    refine k _ (((b1.trans b2).trans b3).trans b4) ⟨dx, d1, d2, d3, d4, upd_same, b4 _ _ nd1 e13, b4 _ _ nd2 e23, b4 _ _ nd3 e3, by rw [upd_ne nd4, upd_same]; rfl, ?_⟩
    simp [n12, n13, n14, n23, n24, n34]
end
end K40S

set_option Elab.async false
set_option linter.all false
set_option maxRecDepth 100000
set_option maxHeartbeats 4000000
namespace K40
open PySem PySem.Spec PyProof.Rows L2 Rd Dt Dq Pk Ln En Sx Sy So Sr Lk TL
open K40S (StA StB StM LSt HpA HpB spMade spTxt map_at kit_self sorted_names keys_n keys_c get_n get_d DcOk asc_nodup nuP nuP_step vN)
local macro_rules | `(tactic| walk_at "rd") => `(tactic| try simp only [↓De.tFor_str, ↓Lk.tLockE_, ↓Lk.tLock_, ↓Lk.tLc_keys, ↓Lk.tFor_keys, ↓Sy.tTupP_, ↓Sy.rTupP_, ↓Sy.rCatP_, ↓Sy.rSlP_, ↓Sy.rDictT_, ↓Sy.tDGet_, ↓Sy.tDGet1_, ↓Sy.tDIn_, ↓Sy.tDNotIn_, ↓Sy.tMeth_, ↓Sy.tMethKw_, ↓Sy.rSortedS_, ↓Sx.rIsT_, ↓En.tFor_enumT, ↓Sy.tFor_enumL, ↓Rv.tMakeKw_, ↓Prp.tProp_, ↓Lo.tBits_, ↓Lo.tJs_n, ↓Lo.tJs_c, ↓Lo.tFmt_, ↓Lo.gFld_, ↓Lo.tMake_, ↓Lo.rOwn_, ↓Rg.tFor_range3, ↓Rg.tLc_range3, ↓Rg.tLstC_, ↓Rg.tLc_rngV, ↓Le.rNeLE_, ↓Le.rEqLE_, ↓Ls.tLc_str, ↓Ls.sDPut_, ↓Rl.rReprL_, ↓Rl.tCallKS_, ↓Ob.tFld_, ↓Ob.sFld_, ↓tVar_, ↓tC_, ↓tM1, ↓tDNewK_, ↓tOp_, ↓tUn_, ↓rI_, ↓rI0_, ↓rU_, ↓eq_ii, ↓ne_ii, ↓eq_ss, ↓ne_ss, ↓eq_bb, ↓ne_bb, ↓tAndV_, ↓tOrV_, ↓tNotV_, ↓tIf_, ↓tTest_, ↓tB_, ↓tAnd_, ↓tOr_, ↓tNot_, ↓tChain_, ↓tNil_, ↓tCons_, ↓tTup_, ↓tLst_, ↓tCB_, ↓tCall_, ↓tSeq_, ↓tNext_, ↓tRet_, ↓tRetN_, ↓tDrop_, ↓tBreak_, ↓tNever_, ↓tIfS_, ↓tAsg_, ↓gName_, ↓gTup_, ↓gCons_, ↓gNil_, ↓gSub_, ↓tPar_, ↓tPar3_, ↓tSl_, ↓tNoPart_, ↓tPart_, ↓tBM_, ↓tFor_range1, ↓tFor_range2, ↓tFor_list, ↓tFor_tup, L2.start, List.headD_cons, List.headD_nil, List.tail_cons, List.map_cons, List.map_nil, List.length_cons, List.length_nil, List.replicate, List.append_nil, List.nil_append, List.cons_append, List.getElem?_cons_zero, List.getElem?_cons_succ, List.set_cons_zero, List.set_cons_succ, Option.some.injEq, V.int.injEq, V.bl.injEq, V.str.injEq, V.ref.injEq, exists_eq_left, exists_eq_left', exists_eq_right, exists_eq, exists_and_left, and_true, true_and, decide_eq_true_eq, Nat.reduceAdd, Nat.reduceSub, Nat.add_zero, Nat.zero_add, List.cons.injEq, Bool.not_eq_true', decide_eq_false_iff_not, eq_self, reduceCtorEq, Bool.false_eq_true, if_true, if_false, ite_true, ite_false, and_self, ↓tLc_range1, ↓tLc_range2, ↓tLc_list, ↓tLc_tup, ↓tYes_, wipe0, wipe1, ↓tCallS_, ↓rIxL_, ↓rIxT_, ↓rSlL_, ↓rCat_, ↓rSetL_, ↓rRep_, ↓rGcd_, ↓tCallK_, ↓gUnl_, ↓tRaise_, decide_true, decide_false, not_true_eq_false, not_false_eq_true, false_and, or_false, false_or, and_false, and_assoc, exists_const, forall_const, forall_eq'])
section
variable {P : Program} {w : World} {K : PySem.W.Frag} {mg : Str → Option Value} {base : Heap}
/-! ### tests on stores under way -/
structure Th (mg : Str → Option Value) : Prop where
  s : K40S.Tx mg
  b_any : mg "any" = none
  b_all : mg "all" = none
  b_sorted : mg "sorted" = none
  b_isinstance : mg "isinstance" = none
  b_repr : mg "repr" = none
  b_list : mg "list" = none
  b_tuple : mg "tuple" = none
  b_str : mg "str" = none
  b_len : mg "len" = none
  b_range : mg "range" = none
  b_int : mg "int" = none
  b_dict : mg "dict" = none
  en : ∃ t, mg "END" = some (.int 0 t)
def KnL (ns : List (Nat × Nat)) (s : Str) : Prop := ∃ c, s = L1 c ∧ (look ns c).isSome = true
def KnW (ns : List (Nat × Nat)) (s : Str) : Prop := s = "END" ∨ KnL ns s
def plc (ns : List (Nat × Nat)) (s : Str) : Nat := if s = "END" then 0 else (look ns (s.cps.toList.headD 0)).getD 0
def cmB (ns : List (Nat × Nat)) : PyData → Bool
  | .tuple [.str m, .str a, .str b] => (decide (plc ns a = plc ns b) == decide (m = "="))
  | _ => false
def tsB (ns : List (Nat × Nat)) : PyData → Bool
  | .tuple [.str k, .tuple cs] => if k = "and" then cs.all (cmB ns) else cs.any (cmB ns)
  | _ => false
theorem L1_END (c : Nat) : L1 c ≠ "END" := fun z => by
  have := congrArg Str.length z
  have h1 : (L1 c).length = 1 := rfl
  rw [h1] at this
  exact absurd this (by decide)
theorem get_l {H : Hp} {d : Addr} {ns : List (Nat × Nat)} (h : H d = some (.dK (ns.map nk))) {s : Str} (k : KnL ns s) : DGet H d (.str s) (some (.int (plc ns s : Nat))) := by
  obtain ⟨c, rfl, hc⟩ := k
  have := DGet.k (k := Sum.inr (L1 c)) h
  rw [val_n] at this
  unfold plc
  rw [if_neg (L1_END c)]
  show DGet H d _ (some (.int ((look ns c).getD 0 : Nat)))
  cases e : look ns c with
  | none => rw [e] at hc; cases hc
  | some v =>
    rw [e] at this
    exact this
theorem HpA.fa {C : Addr} (W : HpB K C) {H : Hp} {h dx d1 d2 d3 d4 : Addr} (e : H h = some (.ins C dx (K40S.hf d1 d2 d3 d4))) :
    Ob.FA K H h "names" (.ref d1) ∧ Ob.FA K H h "cells" (.ref d2) ∧ Ob.FA K H h "used" (.ref d3) ∧ Ob.FA K H h "made" (.ref d4) :=
  ⟨⟨C, dx, _, e, W.cl, W.nN, rfl⟩, ⟨C, dx, _, e, W.cl, W.nC, rfl⟩, ⟨C, dx, _, e, W.cl, W.nU, rfl⟩, ⟨C, dx, _, e, W.cl, W.nM, rfl⟩⟩
def spPO (C : Addr) : Sp := fun vs H Q _ => ∃ (h : Addr) (ns cs us ms : List (Nat × Nat)) (s : Str), vs = [.ref h, .str s] ∧ HpA C H h ns cs us ms ∧ KnW ns s ∧ Q (.int (plc ns s : Nat)) H
theorem sc_po : FnScope ["self", "word"] ["self", "word"] (defScope (inClass (top 26) 1)) := ⟨rfl, rfl, rfl, by decide +kernel, rfl, by decide +kernel, by decide +kernel⟩
theorem ok_po {f C : Addr} {fd : FuncData} {q : Str} (T : Th mg) (W : HpB K C) (F : K40S.FM K "place_of" q (inClass (top 26) 1) f fd) : FnOk P w K mg base CX0 1 f fd ["self", "word"] (spPO C) := by
  refine F.ok sc_po (fun vs H Q E h => ?_) (fun cdv A outer s H vs Q E hr h => ?_)
  · obtain ⟨_, _, _, _, _, _, rfl, _⟩ := h
    rfl
  · obtain ⟨h, ns, cs, us, ms, s, rfl, hp, kw, k⟩ := h
    have nd := sc_po.nd
    obtain ⟨tE, hEND⟩ := T.en
    obtain ⟨dx, d1, d2, d3, d4, h1, h2, h3, h4, h5, h6⟩ := id hp
    refine ⟨_, (pss_one (ps_ret (pe_ifExp (pt_cmpR op_eq (pv 1) pe_str (nomark _)) (pe_glob (v := .int 0) rfl hEND ⟨_, rfl⟩) (pe_dget (hu_of hr) (Ob.pe_fldK (K := K) rfl (pv 0) rfl) (pv 1) (fun _ _ => rfl))))), ?_⟩
    walk_at "rd"
    obtain ⟨fn, fc, fu, fm⟩ := HpA.fa W h1
    by_cases e : s = Str.ofString "END"
    · rw [if_pos e]
      have : plc ns s = 0 := if_pos e
      rw [this] at k
      exact k
    · rw [if_neg e]
      exact ⟨_, fn, d1, rfl, _, get_l h2 (kw.resolve_left e), k⟩
structure HpM (P : Program) (w : World) (K : PySem.W.Frag) (mg : Str → Option Value) (base : Heap) (C f1 : Addr) (fd1 : FuncData) : Prop where
  pof : K40S.MtC P w K mg base C "place_of" 1 ["self", "word"] ["word"] (spPO C) f1 fd1
def spIS (C : Addr) : Sp := fun vs H Q _ => ∃ (h : Addr) (ns cs us ms : List (Nat × Nat)) (a b : Str), vs = [.ref h, .str a, .str b] ∧ HpA C H h ns cs us ms ∧ KnL ns a ∧ KnW ns b ∧ Q (.bl (decide (plc ns a = plc ns b))) H
theorem sc_is : FnScope ["self", "one", "other"] ["self", "one", "other"] (defScope (inClass (top 26) 4)) := ⟨rfl, rfl, rfl, by decide +kernel, rfl, by decide +kernel, by decide +kernel⟩
theorem ok_is {f C : Addr} {fd : FuncData} {q : Str} (T : Th mg) (W : HpB K C) {g1 : Addr} {fd1 : FuncData} (M : HpM P w K mg base C g1 fd1) (F : K40S.FM K "is_same" q (inClass (top 26) 4) f fd) : FnOk P w K mg base CX0 2 f fd ["self", "one", "other"] (spIS C) := by
  refine F.ok sc_is (fun vs H Q E h => ?_) (fun cdv A outer s H vs Q E hr h => ?_)
  · obtain ⟨_, _, _, _, _, _, _, rfl, _⟩ := h
    rfl
  · obtain ⟨h, ns, cs, us, ms, a, b, rfl, hp, ka, kb, k⟩ := h
    have nd := sc_is.nd
    obtain ⟨dx, d1, d2, d3, d4, h1, h2, h3, h4, h5, h6⟩ := id hp
    obtain ⟨fn, fc, fu, fm⟩ := HpA.fa W h1
    refine ⟨_, (pss_one (ps_ret (pe_cmpR op_eq (pe_dget (hu_of hr) (Ob.pe_fldK (K := K) rfl (pv 0) rfl) (pv 1) (fun _ _ => rfl)) (pe_meth (pv 0) W.cl M.pof.m M.pof.F (hr.mono (by omega)) M.pof.b .nil pass0 (pa_cons (pv 2) pa_nil)) (nomark _)))), ?_⟩
    walk_at "rd"
    refine ⟨_, fn, d1, rfl, _, get_l h2 ka, _, _, h1, rfl, h, ns, cs, us, ms, b, rfl, hp, kb, ?_⟩
    show rEq (.int (plc ns a : Nat)) (.int (plc ns b : Nat)) H _
    rw [eq_ii]
    have e : decide ((plc ns a : Int) = plc ns b) = decide (plc ns a = plc ns b) := by
      rw [decide_eq_decide]
      omega
    rw [e]
    exact k
structure HpI (P : Program) (w : World) (K : PySem.W.Frag) (mg : Str → Option Value) (base : Heap) (C f1 : Addr) (fd1 : FuncData) : Prop where
  isn : K40S.MtC P w K mg base C "is_same" 2 ["self", "one", "other"] ["one", "other"] (spIS C) f1 fd1
theorem comp_of {ns : List (Nat × Nat)} {H : Hp} {y : V} {c : PyData} (hd : isComp c = true) (h : Dq K H y c) (kn : ∀ s ∈ wordsOf c, KnW ns s) : ∃ (b : Addr) (m a e : Str), y = .ref b ∧ H b = some (.tup [.str m, .str a, .str e]) ∧ KnL ns a ∧ KnW ns e ∧ cmB ns c = (decide (plc ns a = plc ns e) == decide (m = "=")) := by
  obtain ⟨m, a, e, rfl, hm, ha, he⟩ := comp_cases hd
  cases h with
  | tup e2 h2 =>
    cases h2 with
    | cons h3 h4 =>
      cases h3
      cases h4 with
      | cons h5 h6 =>
        cases h5
        cases h6 with
        | cons h7 h8 =>
          cases h7
          cases h8
          refine ⟨_, m, a, e, rfl, e2, (kn a (show a ∈ [a, e] from List.mem_cons_self ..)).resolve_left (fun z => by rw [z] at ha; revert ha; decide), kn e (show e ∈ [a, e] from List.mem_cons_of_mem _ (List.mem_cons_self ..)), rfl⟩
def spHo (K : PySem.W.Frag) (C : Addr) : Sp := fun vs H Q _ => ∃ (h : Addr) (ns cs us ms : List (Nat × Nat)) (x : V) (d : PyData), vs = [.ref h, x] ∧ HpA C H h ns cs us ms ∧ Dq K H x d ∧ isTest d = true ∧ (∀ s ∈ testL d, KnW ns s) ∧ ∀ H', Same H H' → Q (.bl (tsB ns d)) H'
def hoP (H : Hp) (g : PyData → Bool) (cs : List PyData) (D : Addr) (j : Nat) (H' : Hp) : Prop := Same H H' ∧ H' D = some (.lst (((cs.take j).map g).map V.bl))
theorem hoP_step {H H' : Hp} {g : PyData → Bool} {cs : List PyData} {D : Addr} {j : Nat} {x : PyData} (hl : cs.length ≤ 1000) (h : hoP H g cs D j H') (hD : H D = none) (e : cs[j]? = some x) : ∃ acc, H' D = some (.lst acc) ∧ acc.length < sizeLine ∧ hoP H g cs D (j + 1) (upd H' D (.lst (acc ++ [.bl (g x)]))) := by
  obtain ⟨hs, hL⟩ := h
  refine ⟨_, hL, ?_, fun b o eb => ?_, ?_⟩
  · rw [List.length_map, List.length_map]
    have : (cs.take j).length ≤ cs.length := List.length_take_le' _ _
    have zl : (1000000 : Nat) ≤ sizeLine := line_big
    omega
  · rw [upd_ne (ne_of_none eb hD)]
    exact hs _ _ eb
  · rw [upd_same, List.take_succ, e, List.map_append, List.map_append]
    rfl
theorem sc_ho : FnScope ["self", "test", "found", "sign", "one", "other"] ["self", "test"] (defScope (inClass (top 26) 5)) := ⟨rfl, rfl, rfl, by decide +kernel, rfl, by decide +kernel, by decide +kernel⟩
theorem ok_ho {f C : Addr} {fd : FuncData} {q : Str} (T : Th mg) (W : HpB K C) {g1 : Addr} {fd1 : FuncData} (M : HpI P w K mg base C g1 fd1) (F : K40S.FM K "holds" q (inClass (top 26) 5) f fd) : FnOk P w K mg base CX0 3 f fd ["self", "test"] (spHo K C) := by
  refine F.ok sc_ho (fun vs H Q E h => ?_) (fun cdv A outer s H vs Q E hr h => ?_)
  · obtain ⟨_, _, _, _, _, _, _, rfl, _⟩ := h
    rfl
  · obtain ⟨h, ns, cs, us, ms, x, d, rfl, hp, hx, ht, kn, k⟩ := h
    have nd := sc_ho.nd
    obtain ⟨dx, d1, d2, d3, d4, h1, h2, h3, h4, h5, h6⟩ := id hp
    obtain ⟨j, ks, rfl, hj, hl3, hc⟩ := test_cases ht
    have e0 : testL (.tuple [.str j, .tuple ks]) = ks.flatMap wordsOf := rfl
    rw [e0] at kn
    obtain ⟨a0, a1, xs, rfl, e1, e2, ha⟩ : ∃ (a0 a1 : Addr) (xs : List V), x = .ref a0 ∧ H a0 = some (.tup [.str j, .ref a1]) ∧ H a1 = some (.tup xs) ∧ DqAll K H xs ks := by
      cases hx with
      | tup e h2 =>
        cases h2 with
        | cons h3 h4 =>
          cases h3
          cases h4 with
          | cons h5 h6 =>
            cases h6
            cases h5 with
            | tup e2 h7 => exact ⟨_, _, _, rfl, e, e2, h7⟩
    have hl := ha.len
    refine ⟨_, (pss_cons (ps_setLc (i := 2) (own := [("sign", 3), ("one", 4), ("other", 5)]) rfl nd rfl rfl (sw_true rfl rfl rfl (by decide +kernel)) (pi_tup (pe_ix (r := rIxT K) ix_tup (pv 1) pe_int (fun _ _ => rfl))) (blkOk_by (N := ["self", "test", "found", "sign", "one", "other"]) (sc := defScope (inClass (top 26) 5)) (by decide +kernel)) (fun _ _ _ _ _ => (pg_tupK (K := K) (n := 3) rfl rfl (pgs_cons (pg_name (i := 3) nd rfl (Or.inl rfl) (hf := Or.inr rfl)) (pgs_cons (pg_name (i := 4) nd rfl (Or.inl rfl) (hf := Or.inr rfl)) (pgs_cons (pg_name (i := 5) nd rfl (Or.inl rfl) (hf := Or.inr rfl)) pgs_nil))) rfl rfl)) (fun _ _ _ _ _ => pts_nil) (fun _ _ _ _ _ => (pe_cmpR op_eq (pe_meth (pv 0) W.cl M.isn.m M.isn.F (hr.mono (by omega)) M.isn.b .nil pass0 (pa_cons (pv 4) (pa_cons (pv 5) pa_nil))) (pe_cmpR op_eq (pv 3) pe_str (nomark _)) (nomark _))))
        (pss_one (ps_ret (pe_ifExp (pt_cmpR op_eq (pe_ix (r := rIxT K) ix_tup (pv 1) pe_int (fun _ _ => rfl)) pe_str (nomark _)) (pe_callB (cr_all rfl) (by rfl) T.b_all (by decide +kernel) (pa_cons (pv 2) pa_nil)) (pe_callB (cr_any rfl) (by rfl) T.b_any (by decide +kernel) (pa_cons (pv 2) pa_nil)))))), ?_⟩
    refine sq fun U hU => ?_
    walk_at "rd"
    refine ⟨_, SqT.of e1, _, atI_nn (by decide) rfl, a1, rfl, ⟨_, SqT.of e2⟩, lc_t (xs := xs) (hoP H (cmB ns) ks) fun D hD => ⟨⟨same_new hD, upd_same⟩, fun i H6 _ hP => SqT.of (hP.1 _ _ e2), ?_, ?_⟩⟩
    · rintro i y H6 hy hP
      obtain ⟨c, hc1, hc2⟩ := ha.atV hy
      obtain ⟨b, m, a, e, rfl, eb, ka, ke, ec⟩ := comp_of (hc c (List.mem_of_getElem? hc1)) (hc2.up hP.1) (fun s hs => kn s (List.mem_flatMap.mpr ⟨c, List.mem_of_getElem? hc1, hs⟩))
      have step := hoP_step (by omega) hP hD hc1
      unfold Lturn
      walk_at "rd"
      refine ⟨_, SqT.of eb, rfl, _, _, rfl, _, _, rfl, _, _, rfl, rfl, _, _, hP.1 _ _ h1, rfl, h, ns, cs, us, ms, a, e, rfl, hp.up hP.1, ka, ke, ?_⟩
      show rEq (.str m) (.str (Str.ofString "=")) H6 _
      rw [eq_ss]
      show rEq (.bl (decide (plc ns a = plc ns e))) (.bl (decide (m = Str.ofString "="))) H6 _
      rw [eq_bb]
      have e2 : decide (decide (plc ns a = plc ns e) = decide (m = Str.ofString "=")) = cmB ns c := by
        rw [ec]
        show _ = (decide (plc ns a = plc ns e) == decide (m = Str.ofString "="))
        cases decide (plc ns a = plc ns e) <;> cases decide (m = Str.ofString "=") <;> rfl
      rw [e2]
      exact step
    · rintro H6 ⟨hs, hL⟩
      refine hU _ _ ?_
      clear hU
      rw [hl, List.take_length] at hL
      walk_at "rd"
      refine ⟨_, SqT.of (hs _ _ e1), _, atI_nn (by decide) rfl, ?_⟩
      rw [eq_ss]
      refine ⟨_, rfl, ?_⟩
      by_cases je : j = Str.ofString "and"
      · rw [decide_eq_true je, if_pos rfl]
        refine ⟨D, ks.map (cmB ns), rfl, SqL.of hL, ?_⟩
        have : tsB ns (.tuple [.str j, .tuple ks]) = (ks.map (cmB ns)).all id := by
          show (if j = "and" then ks.all (cmB ns) else ks.any (cmB ns)) = _
          rw [if_pos je, List.all_map]
          rfl
        rw [← this]
        exact k _ hs
      · rw [decide_eq_false je, if_neg (by decide)]
        refine ⟨D, ks.map (cmB ns), rfl, SqL.of hL, ?_⟩
        have : tsB ns (.tuple [.str j, .tuple ks]) = (ks.map (cmB ns)).any id := by
          show (if j = "and" then ks.all (cmB ns) else ks.any (cmB ns)) = _
          rw [if_neg je, List.any_map]
          rfl
        rw [← this]
        exact k _ hs
end
end K40

set_option Elab.async false
set_option linter.all false
set_option maxRecDepth 100000
set_option maxHeartbeats 4000000
namespace K40
open PySem PySem.Spec PyProof.Rows L2 Rd Dt Dq Pk Ln En Sx Sy So Sr Lk TL
open K40S (StA StB StM LSt HpA HpB spMade spTxt map_at kit_self sorted_names keys_n keys_c get_n get_d DcOk asc_nodup nuP nuP_step vN)
local macro_rules | `(tactic| walk_at "rd") => `(tactic| try simp only [↓De.tFor_str, ↓Lk.tLockE_, ↓Lk.tLock_, ↓Lk.tLc_keys, ↓Lk.tFor_keys, ↓Sy.tTupP_, ↓Sy.rTupP_, ↓Sy.rCatP_, ↓Sy.rSlP_, ↓Sy.rDictT_, ↓Sy.tDGet_, ↓Sy.tDGet1_, ↓Sy.tDIn_, ↓Sy.tDNotIn_, ↓Sy.tMeth_, ↓Sy.tMethKw_, ↓Sy.rSortedS_, ↓Sx.rIsT_, ↓En.tFor_enumT, ↓Sy.tFor_enumL, ↓Rv.tMakeKw_, ↓Prp.tProp_, ↓Lo.tBits_, ↓Lo.tJs_n, ↓Lo.tJs_c, ↓Lo.tFmt_, ↓Lo.gFld_, ↓Lo.tMake_, ↓Lo.rOwn_, ↓Rg.tFor_range3, ↓Rg.tLc_range3, ↓Rg.tLstC_, ↓Rg.tLc_rngV, ↓Le.rNeLE_, ↓Le.rEqLE_, ↓Ls.tLc_str, ↓Ls.sDPut_, ↓Rl.rReprL_, ↓Rl.tCallKS_, ↓Ob.tFld_, ↓Ob.sFld_, ↓tVar_, ↓tC_, ↓tM1, ↓tDNewK_, ↓tOp_, ↓tUn_, ↓rI_, ↓rI0_, ↓rU_, ↓eq_ii, ↓ne_ii, ↓eq_ss, ↓ne_ss, ↓eq_bb, ↓ne_bb, ↓tAndV_, ↓tOrV_, ↓tNotV_, ↓tIf_, ↓tTest_, ↓tB_, ↓tAnd_, ↓tOr_, ↓tNot_, ↓tChain_, ↓tNil_, ↓tCons_, ↓tTup_, ↓tLst_, ↓tCB_, ↓tCall_, ↓tSeq_, ↓tNext_, ↓tRet_, ↓tRetN_, ↓tDrop_, ↓tBreak_, ↓tNever_, ↓tIfS_, ↓tAsg_, ↓gName_, ↓gTup_, ↓gCons_, ↓gNil_, ↓gSub_, ↓tPar_, ↓tPar3_, ↓tSl_, ↓tNoPart_, ↓tPart_, ↓tBM_, ↓tFor_range1, ↓tFor_range2, ↓tFor_list, ↓tFor_tup, L2.start, List.headD_cons, List.headD_nil, List.tail_cons, List.map_cons, List.map_nil, List.length_cons, List.length_nil, List.replicate, List.append_nil, List.nil_append, List.cons_append, List.getElem?_cons_zero, List.getElem?_cons_succ, List.set_cons_zero, List.set_cons_succ, Option.some.injEq, V.int.injEq, V.bl.injEq, V.str.injEq, V.ref.injEq, exists_eq_left, exists_eq_left', exists_eq_right, exists_eq, exists_and_left, and_true, true_and, decide_eq_true_eq, Nat.reduceAdd, Nat.reduceSub, Nat.add_zero, Nat.zero_add, List.cons.injEq, Bool.not_eq_true', decide_eq_false_iff_not, eq_self, reduceCtorEq, Bool.false_eq_true, if_true, if_false, ite_true, ite_false, and_self, ↓tLc_range1, ↓tLc_range2, ↓tLc_list, ↓tLc_tup, ↓tYes_, wipe0, wipe1, ↓tCallS_, ↓rIxL_, ↓rIxT_, ↓rSlL_, ↓rCat_, ↓rSetL_, ↓rRep_, ↓rGcd_, ↓tCallK_, ↓gUnl_, ↓tRaise_, decide_true, decide_false, not_true_eq_false, not_false_eq_true, false_and, or_false, false_or, and_false, and_assoc, exists_const, forall_const, forall_eq'])
section
variable {P : Program} {w : World} {K : PySem.W.Frag} {mg : Str → Option Value} {base : Heap}
/-! ### what holds looks at -/
abbrev ErS (K : PySem.W.Frag) (mg : Str → Option Value) := Er K mg "NotAStore" "given"
abbrev ErU (K : PySem.W.Frag) (mg : Str → Option Value) := Er K mg "UnknownName" "given"
def nDat : List Value := [.type "NoneType", .type "bool", .type "int", .type "str", .type "list", .type "tuple", .type "dict"]
def NoS (K : PySem.W.Frag) (C : Addr) : Prop := ∀ t ∈ nDat, PySem.W.kitOne K t (.ref C) = some false
theorem dq_ty {H : Hp} {x : V} {d : PyData} (h : Dq K H x d) : ∃ t ∈ nDat, TyOf K H x t := by
  cases h with
  | non => exact ⟨_, by simp [nDat], .non⟩
  | bl b => exact ⟨_, by simp [nDat], .bl b⟩
  | int i _ => exact ⟨_, by simp [nDat], .int i⟩
  | str s _ => exact ⟨_, by simp [nDat], .str s⟩
  | lst e _ _ => exact ⟨_, by simp [nDat], .lst e⟩
  | tup e _ => exact ⟨_, by simp [nDat], .tup e⟩
  | dic e => exact ⟨_, by simp [nDat], .dK e⟩
def Err (H : Hp) (E : XK) (C : Addr) (x : V) : Prop := ∀ dd H', Same H H' → H' dd = none → E (.ref C) (some dd) (upd H' dd (.xd [("given", x)]))
def spChkX (K : PySem.W.Frag) (C CN : Addr) : Sp := fun vs H Q E => ∃ (x : V), vs = [x] ∧ ((∃ (r : Addr) (ns cs : List (Nat × Nat)), x = .ref r ∧ StA K C H r ns cs ∧ Q .non H) ∨ (∃ d, Dq K H x d ∧ Err H E CN x))
theorem sc_chk : FnScope ["value"] ["value"] (defScope (top 24)) := ⟨rfl, rfl, rfl, by decide +kernel, rfl, by decide +kernel, by decide +kernel⟩
theorem ok_chk {f C CN fi fI : Addr} {fd fdI : FuncData} (T : Th mg) (N : NoS K C) (L : StM K mg C fi) (R : ErS K mg CN fI fdI) (F : FD K "check_store" (top 24) f fd) : FnOk P w K mg base (L2.CX P w) 3 f fd ["value"] (spChkX K C CN) := by
  refine F.ok sc_chk (fun vs H Q E h => ?_) (fun cdv A outer s H vs Q E hr h => ?_)
  · obtain ⟨_, rfl, _⟩ := h
    rfl
  · obtain ⟨x, rfl, h⟩ := h
    have nd := sc_chk.nd
    refine ⟨_, (pss_one (ps_if (pt_not (pt_val (pe_callB call_isi (by rfl) T.b_isinstance (by decide +kernel) (pa_cons (pv 0) (pa_cons (pe_glob (v := .ref C) rfl L.g rfl) pa_nil))))) (pss_one (ps_raiseE rfl R hr (takes_of rfl rfl rfl rfl) (pv 0) mono_var)) pss_nil)), ?_⟩
    walk_at "rd"
    rcases h with ⟨r, ns, cs, rfl, ⟨dx, an, ac, dp, da, hr0, _⟩, k⟩ | ⟨d, hd, k⟩
    · exact ⟨_, _, .ref C, .ref C, true, rfl, .own C, .base (.ins hr0 L.own.cl L.own.ha L.own.hn L.own.ht L.own.hm), kit_self, true, rfl, k⟩
    · obtain ⟨t, ht, ty⟩ := dq_ty hd
      exact ⟨_, _, t, .ref C, false, rfl, .own C, .base ty, N t ht, false, rfl, fun dd hdd => k dd H (Same.refl _) hdd⟩
def kn (ns : List (Nat × Nat)) (s : Str) : Bool := (look ns (s.cps.toList.headD 0)).isSome
def miss (ns : List (Nat × Nat)) (ss : List Str) : Option Str := ss.find? fun s => !kn ns s
theorem lett_mem {ns : List (Nat × Nat)} {c : Nat} : c ∈ (lettT ns).cps.toList ↔ c ∈ ns.map (·.1) := by
  have : tl (lettT ns) = ns.map (·.1) := by
    unfold lettT
    rw [join_eq, tl_join, show tl "" = [] from by decide +kernel, List.map_map]
    have go : ∀ l : List (Nat × Nat), joinL [] (l.map (tl ∘ fun n => L1 n.1)) = l.map (·.1) := fun l => by
      induction l with
      | nil => rfl
      | cons a r ih =>
        cases r with
        | nil => rfl
        | cons b r =>
          show [a.1] ++ ([] ++ joinL [] ((b :: r).map (tl ∘ fun n => L1 n.1))) = _
          rw [ih]
          rfl
    exact go ns
  show c ∈ tl (lettT ns) ↔ _
  rw [this]
theorem lett_kn {ns : List (Nat × Nat)} {c : Nat} : decide (c ∈ (lettT ns).cps.toList) = kn ns (L1 c) := by
  rw [Bool.eq_iff_iff, decide_eq_true_eq, lett_mem]
  show _ ↔ (look ns c).isSome = true
  rw [look_some, List.mem_map]
def spCK (CU : Addr) : Sp := fun vs H Q E => ∃ (p : Addr) (ns : List (Nat × Nat)) (ss : List Str), vs = [.ref p, .str (lettT ns)] ∧ H p = some (.lst (ss.map V.str)) ∧ (∀ s ∈ ss, ∃ c, s = L1 c) ∧ (miss ns ss = none → ∀ H', Same H H' → Q .non H') ∧ (∀ s, miss ns ss = some s → Err H E CU (.str s))
def ckP (H : Hp) (p : Addr) (ns : List (Nat × Nat)) (ss : List Str) (i : Nat) : L2.St → Hp → Prop := fun σ H' => Same H H' ∧ miss ns (ss.take i) = none ∧ ∃ y, σ = [some (.ref p), some (.str (lettT ns)), y]
theorem sc_ck : FnScope ["letters", "known", "letter"] ["letters", "known"] (defScope (top 40)) := ⟨rfl, rfl, rfl, by decide +kernel, rfl, by decide +kernel, by decide +kernel⟩
theorem ok_ck {f CU fI : Addr} {fd fdI : FuncData} (T : Th mg) (R : ErU K mg CU fI fdI) (F : FD K "check_known" (top 40) f fd) : FnOk P w K mg base (L2.CX P w) 3 f fd ["letters", "known"] (spCK CU) := by
  refine F.ok sc_ck (fun vs H Q E h => ?_) (fun cdv A outer s H vs Q E hr h => ?_)
  · obtain ⟨_, _, _, rfl, _⟩ := h
    rfl
  · obtain ⟨p, ns, ss, rfl, hp, hl, k1, k2⟩ := h
    have nd := sc_ck.nd
    refine ⟨_, (pss_one (ps_for (passes_of rfl) rfl (pi_list (pv 0)) (pg_name (i := 2) nd rfl (Or.inl rfl)) (pss_one (ps_if (pt_cmpR op_notIn_sign (pv 2) (pv 1) rfl) (pss_one (ps_raiseE rfl R hr (takes_of rfl rfl rfl rfl) (pv 2) mono_var)) pss_nil)))), ?_⟩
    walk_at "rd"
    refine ⟨⟨_, SqL.of hp⟩, for_l (K := K) (a := p) (xs := ss.map V.str) (ckP H p ns ss) ⟨Same.refl _, rfl, _, rfl⟩ (fun i σ H' _ h => SqL.of (h.1 _ _ hp)) ?_ ?_⟩
    · rintro i y σ H' hi ⟨hs, hm, z, rfl⟩
      obtain ⟨s, hs2, rfl⟩ := map_at hi
      obtain ⟨c, rfl⟩ := hl s (List.mem_of_getElem? hs2)
      have et : ss.take (i + 1) = ss.take i ++ [L1 c] := by rw [List.take_succ, hs2]; rfl
      walk_at "rd"
      have ekn : c ∈ (lettT ns).cps.toList ↔ kn ns (L1 c) = true := by rw [← lett_kn, decide_eq_true_eq]
      refine ⟨c, rfl, ?_⟩
      cases ek : kn ns (L1 c) with
      | true =>
        rw [if_neg (fun z => z (ekn.mpr ek))]
        refine ⟨hs, ?_, _, rfl⟩
        unfold miss at hm ⊢
        rw [et, List.find?_append, hm]
        simp [ek]
      | false =>
        rw [if_pos (fun z => by rw [ekn.mp z] at ek; cases ek)]
        refine fun dd hdd => k2 (L1 c) ?_ dd H' hs hdd
        have e2 : ss = ss.take (i + 1) ++ ss.drop (i + 1) := (List.take_append_drop _ _).symm
        unfold miss at hm ⊢
        rw [e2, et, List.find?_append, List.find?_append, hm]
        simp [ek]
    · rintro σ H' ⟨hs, hm, z, rfl⟩
      rw [List.length_map, List.take_length] at hm
      walk_at "rd"
      exact k1 hm H' hs
def spHf (K : PySem.W.Frag) (C CH : Addr) : Sp := fun vs H Q _ => ∃ (r : Addr) (ns cs : List (Nat × Nat)), vs = [.ref r, .str ""] ∧ StA K C H r ns cs ∧ ∀ h H', Same H H' → HpA CH H' h ns cs cs [] → Q (.ref h) H'
theorem sc_hf : FnScope ["store", "helpers", "found", "letter"] ["store", "helpers"] (defScope (top 27)) := ⟨rfl, rfl, rfl, by decide +kernel, rfl, by decide +kernel, by decide +kernel⟩
structure HpK (K : PySem.W.Frag) (mg : Str → Option Value) (C f : Addr) : Prop where
  mkr : Mk K C f
  g : mg "Heap" = some (.ref C)
theorem ok_hf {f C CH fi : Addr} {fd fdI : FuncData} (T : Th mg) (W : StB K C) (HL : HpK K mg CH fi) (F_hin : FnOk P w K mg base CX0 1 fi fdI ["self", "names", "cells"] (K40S.spHI K CH)) (b_hin : Binds K fdI ["self", "names", "cells"] []) (F : FD K "heap_of" (top 27) f fd) : FnOk P w K mg base CX0 3 f fd ["store", "helpers"] (spHf K C CH) := by
  refine F.ok sc_hf (fun vs H Q E h => ?_) (fun cdv A outer s H vs Q E hr h => ?_)
  · obtain ⟨_, _, _, rfl, _⟩ := h
    rfl
  · obtain ⟨r, ns, cs, rfl, hst, k⟩ := h
    have nd := sc_hf.nd
    obtain ⟨tE, hEND⟩ := T.en
    obtain ⟨dx, an, ac, dp, da, hr0, hn, hc, hpd, ha, okn, okc⟩ := id hst
    obtain ⟨fn, fc, fp, fa, fl⟩ := K40S.StA.fa W hr0
    refine ⟨_, (pss_cons (ps_set (i := 2) nd rfl (Or.inl rfl) (pe_make HL.mkr F_hin (hr.mono (by omega)) rfl HL.g b_hin .nil pass0 (pa_cons (Ob.pe_fldK (K := K) rfl (pv 0) rfl) (pa_cons (Ob.pe_fldK (K := K) rfl (pv 0) rfl) pa_nil))))
        (pss_cons (ps_for (passes_of rfl) rfl (pi_str (pv 1)) (pg_name (i := 3) nd rfl (Or.inl rfl)) (pss_one (ps_dput (hu_of hr) (Ob.pe_fldK (K := K) rfl (pv 2) rfl) (pv 3) (pe_glob (v := .int 0) rfl hEND ⟨_, rfl⟩) rfl)))
        (pss_one (ps_ret (pv 2))))), ?_⟩
    refine sq fun U hU => ?_
    walk_at "rd"
    refine ⟨_, fn, _, fc, fun x dx2 hx hdx hne => ?_⟩
    have hn2 := K40S.PrsAt.make (o := .own x) (o2 := .ins CH dx2 []) hx hdx hn
    have hc2 := K40S.PrsAt.make (o := .own x) (o2 := .ins CH dx2 []) hx hdx hc
    refine ⟨x, dx2, an, ac, ns, cs, rfl, upd_same, hn2, hc2, okn, okc, fun H4 b4 st => ⟨rfl, hU _ _ ?_⟩⟩
    clear hU
    have s4 := K40S.make_same hx hdx b4
    refine sq fun U hU => ?_
    walk_at "rd"
    refine De.for_s (fun _ σ H' => σ = [some (.ref r), some (.str (Str.ofString "")), some (.ref x), none] ∧ H' = H4) ⟨rfl, rfl⟩ (fun i c σ H' hc _ => by
      have e : (Str.ofString "").cps.toList = [] := by decide +kernel
      rw [e] at hc
      cases hc) ?_
    rintro σ H' ⟨rfl, rfl⟩
    refine hU _ _ ?_
    clear hU
    walk_at "rd"
    exact k x _ s4 st
theorem let_L1 {s : Str} (h : isLetterS s = true) : ∃ c, s = L1 c := by
  obtain ⟨⟨l⟩⟩ := s
  unfold isLetterS at h
  match l, h with
  | [c], _ => exact ⟨c, rfl⟩
theorem pOf_test {d t : PyData} (h : testOfD d = some t) : isTest t = true := by
  cases d with
  | str s => exact (pOf_iff.mp h).1
  | _ => cases h
theorem known_of {ns : List (Nat × Nat)} {t : PyData} (ht : isTest t = true) (hm : miss ns (letL (testL t)) = none) : ∀ s ∈ testL t, KnW ns s := fun s hs => by
  obtain ⟨j, ks, rfl, hj, hl3, hc⟩ := test_cases ht
  have hs : s ∈ ks.flatMap wordsOf := hs
  obtain ⟨c, hcm, hsc⟩ := List.mem_flatMap.mp hs
  obtain ⟨m, a, e, rfl, hm2, ha, he⟩ := comp_cases (hc c hcm)
  have hg : isGoal (.str s) = true := by
    have hsc : s ∈ [a, e] := hsc
    simp only [List.mem_cons, List.not_mem_nil, or_false] at hsc
    rcases hsc with rfl | rfl
    · exact l_goal ha
    · exact he
  by_cases hE : s = "END"
  · exact .inl hE
  · have hl : isLetterS s = true := by
      have z : (isLetterS s || decide (s = "END")) = true := hg
      rwa [decide_eq_false hE, Bool.or_false] at z
    have hm3 : s ∈ letL (ks.flatMap wordsOf) := mem_letL.mpr ⟨mem_abcL.mpr hl, hs⟩
    have := List.find?_eq_none.mp hm s hm3
    obtain ⟨c, rfl⟩ := let_L1 hl
    refine .inr ⟨c, rfl, ?_⟩
    have z : (!kn ns (L1 c)) ≠ true := this
    have z2 : kn ns (L1 c) = true := by simpa using z
    exact z2
def spHolds (K : PySem.W.Frag) (C CT CN CU : Addr) : Sp := fun vs H Q E => ∃ (x y : V) (d : PyData), vs = [x, y] ∧ Dq K H x d ∧ (testOfD d = none → Err H E CT x) ∧ (∀ t, testOfD d = some t →
  (∃ (r : Addr) (ns cs : List (Nat × Nat)), y = .ref r ∧ StA K C H r ns cs ∧ (∀ s, miss ns (letL (testL t)) = some s → Err H E CU (.str s)) ∧ (miss ns (letL (testL t)) = none → ∀ H', Same H H' → Q (.bl (tsB ns t)) H')) ∨ (∃ e, Dq K H y e ∧ Err H E CN y))
theorem Err.up {H H1 : Hp} {E : XK} {C : Addr} {x : V} (h : Err H E C x) (s : Same H H1) : Err H1 E C x := fun dd H' s' hd => h dd H' (s.trans s') hd
structure HpH (P : Program) (w : World) (K : PySem.W.Frag) (mg : Str → Option Value) (base : Heap) (C f1 : Addr) (fd1 : FuncData) : Prop where
  cl : Cls K C
  hol : K40S.MtC P w K mg base C "holds" 3 ["self", "test"] ["test"] (spHo K C) f1 fd1
theorem sc_holds : FnScope ["test", "store", "tree"] ["test", "store"] (defScope (top 41)) := ⟨rfl, rfl, rfl, by decide +kernel, rfl, by decide +kernel, by decide +kernel⟩
theorem ok_holds {f C CH CT CN CU g1 : Addr} {fd fdg : FuncData} (T : Th mg) (W' : StB K C) (W : HpB K CH) (M : HpH P w K mg base CH g1 fdg) (F : FD K "holds" (top 41) f fd) {f1 f2 f3 f4 f5 : Addr} {fd1 fd2 fd3 fd4 fd5 : FuncData}
    (C1 : Cal P w K mg base (L2.CX P w) 6 "test_tree" ["test"] (spTT K CT) f1 fd1) (C2 : Cal P w K mg base (L2.CX P w) 3 "check_store" ["value"] (spChkX K C CN) f2 fd2) (C3 : Cal P w K mg base (L2.CX P w) 3 "check_known" ["letters", "known"] (spCK CU) f3 fd3)
    (C4 : Cal P w K mg base CX0 1 "test_letters" ["tree"] (spTL K) f4 fd4) (C5 : Cal P w K mg base CX0 3 "heap_of" ["store", "helpers"] (spHf K C CH) f5 fd5) : FnOk P w K mg base (L2.CX P w) 7 f fd ["test", "store"] (spHolds K C CT CN CU) := by
  obtain ⟨gtest_tree, ktest_tree, btest_tree, Ftest_tree⟩ := C1
  obtain ⟨gcheck_store, kcheck_store, bcheck_store, Fcheck_store⟩ := C2
  obtain ⟨gcheck_known, kcheck_known, bcheck_known, Fcheck_known⟩ := C3
  obtain ⟨gtest_letters, ktest_letters, btest_letters, Ftest_letters⟩ := C4
  obtain ⟨gheap_of, kheap_of, bheap_of, Fheap_of⟩ := C5
  refine F.ok sc_holds (fun vs H Q E h => ?_) (fun cdv A outer s H vs Q E hr h => ?_)
  · obtain ⟨_, _, _, rfl, _⟩ := h
    rfl
  · obtain ⟨x, y, d, rfl, hx, k1, k2⟩ := h
    have nd := sc_holds.nd
    refine ⟨_, (pss_cons (ps_set (i := 2) nd rfl (Or.inl rfl) (pe_call Ftest_tree (hr.mono (by omega)) rfl gtest_tree ktest_tree btest_tree .nil (passes_call (takes_of rfl rfl rfl rfl) (fun _ _ _ _ z => z)) (pa_cons (pv 0) pa_nil)))
        (pss_cons (ps_expr (pe_call Fcheck_store (hr.mono (by omega)) rfl gcheck_store kcheck_store bcheck_store .nil (passes_call (takes_of rfl rfl rfl rfl) (fun _ _ _ _ z => z)) (pa_cons (pv 1) pa_nil)))
        (pss_cons (ps_expr (pe_call Fcheck_known (hr.mono (by omega)) rfl gcheck_known kcheck_known bcheck_known .nil (passes_call (takes_of rfl rfl rfl rfl) (fun _ _ _ _ z => z)) (pa_cons (pe_call Ftest_letters (hr.mono (by omega)) rfl gtest_letters ktest_letters btest_letters .nil pass0 (pa_cons (pv 2) pa_nil)) (pa_cons (Ob.pe_fldK (K := K) rfl (pv 1) rfl) pa_nil))))
        (pss_one (ps_ret (pe_meth (pe_call Fheap_of (hr.mono (by omega)) rfl gheap_of kheap_of bheap_of .nil pass0 (pa_cons (pv 1) (pa_cons pe_str pa_nil))) W.cl M.hol.m M.hol.F (hr.mono (by omega)) M.hol.b .nil pass0 (pa_cons (pv 2) pa_nil))))))), ?_⟩
    refine sq fun U hU => ?_
    walk_at "rd"
    refine ⟨x, d, rfl, hx, fun t et v H1 s1 hv => hU _ _ ?_, fun e => k1 e⟩
    clear hU
    have ht := pOf_test et
    refine sq fun U hU => ?_
    walk_at "rd"
    rcases k2 t et with ⟨r, ns, cs, rfl, hst, m1, m2⟩ | ⟨e, he, ke⟩
    case inr =>
      exact ⟨y, rfl, .inr ⟨e, he.up s1, ke.up s1⟩⟩
    refine ⟨_, rfl, .inl ⟨r, ns, cs, rfl, hst.up s1, hU _ _ ?_⟩⟩
    clear hU
    have hst1 := hst.up s1
    obtain ⟨dx, an, ac, dp, da, hr0, _⟩ := id hst1
    obtain ⟨fn, fc, fp, fa, fl⟩ := K40S.StA.fa W' hr0
    refine sq fun U hU => ?_
    walk_at "rd"
    refine ⟨v, t, rfl, hv, ht, fun p H2 hp s2 hL => ?_⟩
    have hst2 := hst1.up s2
    obtain ⟨dx2, an2, ac2, dp2, da2, hr2, _⟩ := id hst2
    obtain ⟨fn2, fc2, fp2, fa2, fl2⟩ := K40S.StA.fa W' hr2
    have s02 := s1.trans s2
    refine ⟨_, fl2, p, ns, _, rfl, hL, fun s hs => let_L1 (letL_letter hs), fun em H3 s3 => hU _ _ ?_, fun s em => (m1 s em).up s02⟩
    clear hU
    walk_at "rd"
    refine ⟨r, ns, cs, rfl, hst2.up s3, fun h H4 s4 hh => ?_⟩
    have s24 := s3.trans s4
    obtain ⟨ex, d1, d2, d3, d4, e1, _⟩ := id hh
    exact ⟨h, rfl, _, _, e1, rfl, h, ns, cs, cs, [], v, t, rfl, hh, hv.up (s2.trans s24), ht, known_of ht em, fun H5 s5 => m2 em H5 (s02.trans (s24.trans s5))⟩
end
end K40

set_option Elab.async false
set_option linter.all false
set_option maxRecDepth 100000
set_option maxHeartbeats 4000000
namespace K40
open PySem PySem.Spec PyProof.Rows L2 Rd Dt Dq Pk Ln En Sx Sy So Sr Lk TL
open K40S (StA StB StM LSt HpA HpB spMade spTxt map_at kit_self sorted_names keys_n keys_c get_n get_d DcOk asc_nodup nuP nuP_step vN)
local macro_rules | `(tactic| walk_at "rd") => `(tactic| try simp only [↓De.tFor_str, ↓Lk.tLockE_, ↓Lk.tLock_, ↓Lk.tLc_keys, ↓Lk.tFor_keys, ↓Sy.tTupP_, ↓Sy.rTupP_, ↓Sy.rCatP_, ↓Sy.rSlP_, ↓Sy.rDictT_, ↓Sy.tDGet_, ↓Sy.tDGet1_, ↓Sy.tDIn_, ↓Sy.tDNotIn_, ↓Sy.tMeth_, ↓Sy.tMethKw_, ↓Sy.rSortedS_, ↓Sx.rIsT_, ↓En.tFor_enumT, ↓Sy.tFor_enumL, ↓Rv.tMakeKw_, ↓Prp.tProp_, ↓Lo.tBits_, ↓Lo.tJs_n, ↓Lo.tJs_c, ↓Lo.tFmt_, ↓Lo.gFld_, ↓Lo.tMake_, ↓Lo.rOwn_, ↓Rg.tFor_range3, ↓Rg.tLc_range3, ↓Rg.tLstC_, ↓Rg.tLc_rngV, ↓Le.rNeLE_, ↓Le.rEqLE_, ↓Ls.tLc_str, ↓Ls.sDPut_, ↓Rl.rReprL_, ↓Rl.tCallKS_, ↓Ob.tFld_, ↓Ob.sFld_, ↓tVar_, ↓tC_, ↓tM1, ↓tDNewK_, ↓tOp_, ↓tUn_, ↓rI_, ↓rI0_, ↓rU_, ↓eq_ii, ↓ne_ii, ↓eq_ss, ↓ne_ss, ↓eq_bb, ↓ne_bb, ↓tAndV_, ↓tOrV_, ↓tNotV_, ↓tIf_, ↓tTest_, ↓tB_, ↓tAnd_, ↓tOr_, ↓tNot_, ↓tChain_, ↓tNil_, ↓tCons_, ↓tTup_, ↓tLst_, ↓tCB_, ↓tCall_, ↓tSeq_, ↓tNext_, ↓tRet_, ↓tRetN_, ↓tDrop_, ↓tBreak_, ↓tNever_, ↓tIfS_, ↓tAsg_, ↓gName_, ↓gTup_, ↓gCons_, ↓gNil_, ↓gSub_, ↓tPar_, ↓tPar3_, ↓tSl_, ↓tNoPart_, ↓tPart_, ↓tBM_, ↓tFor_range1, ↓tFor_range2, ↓tFor_list, ↓tFor_tup, L2.start, List.headD_cons, List.headD_nil, List.tail_cons, List.map_cons, List.map_nil, List.length_cons, List.length_nil, List.replicate, List.append_nil, List.nil_append, List.cons_append, List.getElem?_cons_zero, List.getElem?_cons_succ, List.set_cons_zero, List.set_cons_succ, Option.some.injEq, V.int.injEq, V.bl.injEq, V.str.injEq, V.ref.injEq, exists_eq_left, exists_eq_left', exists_eq_right, exists_eq, exists_and_left, and_true, true_and, decide_eq_true_eq, Nat.reduceAdd, Nat.reduceSub, Nat.add_zero, Nat.zero_add, List.cons.injEq, Bool.not_eq_true', decide_eq_false_iff_not, eq_self, reduceCtorEq, Bool.false_eq_true, if_true, if_false, ite_true, ite_false, and_self, ↓tLc_range1, ↓tLc_range2, ↓tLc_list, ↓tLc_tup, ↓tYes_, wipe0, wipe1, ↓tCallS_, ↓rIxL_, ↓rIxT_, ↓rSlL_, ↓rCat_, ↓rSetL_, ↓rRep_, ↓rGcd_, ↓tCallK_, ↓gUnl_, ↓tRaise_, decide_true, decide_false, not_true_eq_false, not_false_eq_true, false_and, or_false, false_or, and_false, and_assoc, exists_const, forall_const, forall_eq'])
section
variable {P : Program} {w : World} {K : PySem.W.Frag} {mg : Str → Option Value} {base : Heap}
/-! ### what the law makes of a test -/
def hd1 (s : Str) : Nat := s.cps.toList.headD 0
theorem rise_hd : ∀ (ss : List Str) (p : Str), (∀ s ∈ p :: ss, s.cps.toList ≠ []) → risingS p ss = true → (p :: ss).Pairwise (fun a b => hd1 a ≤ hd1 b)
  | [], p, _, _ => List.pairwise_singleton _ _
  | c :: cs, p, hn, h => by
    rw [risingS, Bool.and_eq_true] at h
    have ih := rise_hd cs c (fun s hs => hn s (List.mem_cons_of_mem _ hs)) h.2
    have h1 : hd1 p ≤ hd1 c := by
      have h0 := h.1
      have n1 := hn p (List.mem_cons_self ..)
      have n2 := hn c (List.mem_cons_of_mem _ (List.mem_cons_self ..))
      unfold hd1
      cases e1 : p.cps.toList with
      | nil => exact absurd e1 n1
      | cons x xs =>
        cases e2 : c.cps.toList with
        | nil => exact absurd e2 n2
        | cons y ys =>
          rw [e1, e2] at h0
          have e : ltCps (y :: ys) (x :: xs) = (decide (y < x) || ((y == x) && ltCps ys xs)) := rfl
          rw [e] at h0
          have : ¬ y < x := fun z => by rw [decide_eq_true z] at h0; cases h0
          show x ≤ y
          omega
    refine List.pairwise_cons.mpr ⟨fun x hx => ?_, ih⟩
    rcases List.mem_cons.mp hx with rfl | hx
    · exact h1
    · exact Nat.le_trans h1 ((List.pairwise_cons.mp ih).1 x hx)
theorem sort_hd {ss : List Str} (hn : ∀ s ∈ ss, s.cps.toList ≠ []) (h : sortedS ss = true) : ss.Pairwise (fun a b => hd1 a ≤ hd1 b) := by
  cases ss with
  | nil => exact .nil
  | cons x r => exact rise_hd r x hn h
theorem heads {A B : List Str} (pA : A.Pairwise (fun a b => hd1 a ≤ hd1 b)) (pB : B.Pairwise (fun a b => hd1 a ≤ hd1 b)) (m : ∀ s, s ∈ A ↔ s ∈ B) (inj : ∀ a ∈ A, ∀ b ∈ A, hd1 a = hd1 b → a = b) : A.head? = B.head? := by
  cases A with
  | nil =>
    cases B with
    | nil => rfl
    | cons b B => exact absurd ((m b).mpr (List.mem_cons_self ..)) (by simp)
  | cons a A =>
    cases B with
    | nil => exact absurd ((m a).mp (List.mem_cons_self ..)) (by simp)
    | cons b B =>
      have hb := (m b).mpr (List.mem_cons_self ..)
      have ha := (m a).mp (List.mem_cons_self ..)
      have h1 : hd1 a ≤ hd1 b := by
        rcases List.mem_cons.mp hb with rfl | hb
        · exact Nat.le_refl _
        · exact (List.pairwise_cons.mp pA).1 b hb
      have h2 : hd1 b ≤ hd1 a := by
        rcases List.mem_cons.mp ha with rfl | ha
        · exact Nat.le_refl _
        · exact (List.pairwise_cons.mp pB).1 a ha
      show some a = some b
      rw [inj a (List.mem_cons_self ..) b hb (Nat.le_antisymm h1 h2)]
def lack (ns : List (Nat × Nat)) (s : Str) : Bool := decide (s ≠ "END") && !kn ns s
theorem goal_cases {s : Str} (h : isGoal (.str s) = true) : s = "END" ∨ isLetterS s = true := by
  have z : (isLetterS s || decide (s = "END")) = true := h
  rw [Bool.or_eq_true, decide_eq_true_eq] at z
  exact z.symm
theorem lack_head {ns : List (Nat × Nat)} {ss ys : List Str} (hg : ∀ s ∈ ss, isGoal (.str s) = true) (p : ys.Perm ss) (h : sortedS ys = true) : (ys.filter (lack ns)).head? = miss ns (letL ss) := by
  have hg' : ∀ s ∈ ys, s = "END" ∨ ∃ c, s = L1 c := fun s hs => by
    rcases goal_cases (hg s (p.mem_iff.mp hs)) with z | z
    · exact .inl z
    · exact .inr (let_L1 z)
  unfold miss
  rw [← List.head?_filter]
  refine heads ((sort_hd (fun s hs => ?_) h).sublist List.filter_sublist) ?_ (fun s => ?_) fun a ha b hb e => ?_
  · rcases hg' s hs with rfl | ⟨c, rfl⟩
    · decide +kernel
    · exact fun z => by cases z
  · refine List.Pairwise.sublist List.filter_sublist (?_ : (letL ss).Pairwise _)
    unfold letL
    refine List.Pairwise.sublist List.filter_sublist ?_
    unfold abcL
    rw [List.pairwise_map]
    exact abc_lt.imp fun {a b} q => Nat.le_of_lt q
  · rw [List.mem_filter, List.mem_filter, mem_letL, mem_abcL, p.mem_iff]
    unfold lack
    rw [Bool.and_eq_true, decide_eq_true_eq]
    constructor
    · rintro ⟨h1, h2, h3⟩
      exact ⟨⟨(goal_cases (hg s h1)).resolve_left h2, h1⟩, h3⟩
    · rintro ⟨⟨h1, h2⟩, h3⟩
      exact ⟨h2, fun z => by rw [z] at h1; revert h1; decide, h3⟩
  · have f : ∀ s ∈ ys.filter (lack ns), ∃ c, s = L1 c := fun s hs => by
      obtain ⟨h1, h2⟩ := List.mem_filter.mp hs
      unfold lack at h2
      rw [Bool.and_eq_true, decide_eq_true_eq] at h2
      exact (hg' s h1).resolve_left h2.1
    obtain ⟨c, rfl⟩ := f a ha
    obtain ⟨d, rfl⟩ := f b hb
    have : c = d := e
    rw [this]
def spLack : Sp := fun vs H Q _ => ∃ (dn l : Addr) (ns : List (Nat × Nat)) (ss : List Str), vs = [.ref dn, .ref l] ∧ H dn = some (.dK (ns.map nk)) ∧ H l = some (.lst (ss.map V.str)) ∧ (∀ s ∈ ss, isGoal (.str s) = true) ∧ ss.length ≤ 20 ∧
  ∀ (D : Addr) (ls : List Str) H', Same H H' → H' D = some (.lst (ls.map V.str)) → ls.head? = miss ns (letL ss) → ls.length ≤ 20 → Q (.ref D) H'
def lkP (H : Hp) (t : Str → Bool) (ys : List Str) (D : Addr) (j : Nat) (H' : Hp) : Prop := Same H H' ∧ H' D = some (.lst (((ys.take j).filter t).map V.str))
theorem sc_lack : FnScope ["_law_homes", "_law_some", "_law_sign"] ["_law_homes", "_law_some"] (defScope (top 59)) := ⟨rfl, rfl, rfl, by decide +kernel, rfl, by decide +kernel, by decide +kernel⟩
theorem ok_lack {f : Addr} {fd : FuncData} (T : Th mg) (F : FD K "_law_lacking" (top 59) f fd) : FnOk P w K mg base CX0 1 f fd ["_law_homes", "_law_some"] spLack := by
  refine F.ok sc_lack (fun vs H Q E h => ?_) (fun cdv A outer s H vs Q E hr h => ?_)
  · obtain ⟨_, _, _, _, rfl, _⟩ := h
    rfl
  · obtain ⟨dn, l, ns, ss, rfl, hdn, hl, hg, hs20, k⟩ := h
    have nd := sc_lack.nd
    have zl : (1000000 : Nat) ≤ sizeLine := line_big
    refine ⟨_, (pss_one (ps_ret (pe_lc (own := [("_law_sign", 2)]) rfl nd (pi_list (pe_callB cr_sortedS (by rfl) T.b_sorted (by decide +kernel) (pa_cons (pv 1) pa_nil))) (blkOk_by (N := ["_law_homes", "_law_some", "_law_sign"]) (sc := defScope (top 59)) (by decide +kernel)) (fun _ _ _ _ _ => (pg_name (i := 2) nd rfl (Or.inl rfl))) (fun _ _ _ _ _ => (pts_one (PW.pt (pw_and (pt_cmpR op_ne (pv 2) pe_str (nomark _)) (pw_and1 (pt_cmp (pc_dnotin (hu_of hr) (pv 2) (pv 0)))))))) (fun _ _ _ _ _ => (pv 2))))), ?_⟩
    walk_at "rd"
    refine ⟨ss, SqL.of hl, by omega, fun ys p py sy hp => ?_⟩
    have s1 : Same H (upd H p (.lst (ys.map V.str))) := same_new hp
    have f1 : upd H p (.lst (ys.map V.str)) p = some (.lst (ys.map V.str)) := upd_same
    generalize upd H p (.lst (ys.map V.str)) = H1 at s1 f1 ⊢
    have ly := py.length_eq
    refine ⟨⟨_, SqL.of f1⟩, lc_l (xs := ys.map V.str) (lkP H1 (lack ns) ys) fun D hD => ⟨⟨same_new hD, upd_same⟩, fun j H6 _ hP => SqL.of (hP.1 _ _ f1), ?_, ?_⟩⟩
    · rintro j y H6 hy ⟨h6, hL⟩
      obtain ⟨s, hs, rfl⟩ := map_at hy
      have et : ys.take (j + 1) = ys.take j ++ [s] := by rw [List.take_succ, hs]; rfl
      have no : lack ns s = false → lkP H1 (lack ns) ys D (j + 1) H6 := fun e => ⟨h6, by rw [et, List.filter_append]; simp [e, hL]⟩
      unfold Lturn
      walk_at "rd"
      by_cases hE : s = Str.ofString "END"
      · rw [if_neg (fun z => z hE)]
        refine no ?_
        unfold lack
        rw [decide_eq_false (fun z => z hE)]
        rfl
      · rw [if_pos hE]
        obtain ⟨c, rfl⟩ := let_L1 ((goal_cases (hg s (py.mem_iff.mp (List.mem_of_getElem? hs)))).resolve_left hE)
        have gd := DGet.k (k := Sum.inr (L1 c)) (h6 _ _ (s1 _ _ hdn))
        rw [val_n] at gd
        refine ⟨_, gd, ?_⟩
        have ek : ((look ns c).map fun v : Nat => V.int v).isSome = kn ns (L1 c) := by
          show _ = (look ns c).isSome
          cases look ns c <;> rfl
        rw [ek]
        have le : lack ns (L1 c) = !kn ns (L1 c) := by
          unfold lack
          rw [show decide (L1 c ≠ "END") = true from decide_eq_true hE]
          rfl
        cases e : kn ns (L1 c) with
        | true =>
          rw [if_neg (by decide)]
          exact no (by rw [le, e]; rfl)
        | false =>
          rw [if_pos rfl]
          refine ⟨_, hL, ?_, fun b o eb => ?_, ?_⟩
          · rw [List.length_map]
            have := List.length_filter_le (lack ns) (ys.take j)
            have := List.length_take_le' j ys
            omega
          · rw [upd_ne (ne_of_none eb hD)]
            exact h6 _ _ eb
          · rw [upd_same, et, List.filter_append, List.map_append]
            simp [le, e]
    · rintro H6 ⟨h6, hL⟩
      rw [List.length_map, List.take_length] at hL
      refine k D _ H6 (s1.trans h6) hL (lack_head hg py sy) ?_
      have := List.length_filter_le (lack ns) ys
      omega
def spSo (K : PySem.W.Frag) : Sp := fun vs H Q _ => ∃ (dn : Addr) (ns : List (Nat × Nat)) (x : V) (d : PyData), vs = [.ref dn, x] ∧ H dn = some (.dK (ns.map nk)) ∧ Dq K H x d ∧ isTest d = true ∧ (∀ s ∈ testL d, KnW ns s) ∧ ∀ H', Same H H' → Q (.bl (tsB ns d)) H'
def tOpEnd (m : Str) (a b : Nat) (F : Bool → Prop) : Prop := F (decide (decide (a = b) = decide (m = Str.ofString "=")))
theorem sc_so : FnScope ["_law_homes", "_law_quiz_here", "_law_told_here", "_law_mark", "_law_one", "_law_two"] ["_law_homes", "_law_quiz_here"] (defScope (top 49)) := ⟨rfl, rfl, rfl, by decide +kernel, rfl, by decide +kernel, by decide +kernel⟩
theorem ok_so {f : Addr} {fd : FuncData} (T : Th mg) (F : FD K "_law_is_so" (top 49) f fd) : FnOk P w K mg base CX0 1 f fd ["_law_homes", "_law_quiz_here"] (spSo K) := by
  refine F.ok sc_so (fun vs H Q E h => ?_) (fun cdv A outer s H vs Q E hr h => ?_)
  · obtain ⟨_, _, _, _, rfl, _⟩ := h
    rfl
  · obtain ⟨dn, ns, x, d, rfl, hdn, hx, ht, kn, k⟩ := h
    have nd := sc_so.nd
    obtain ⟨j, ks, rfl, hj, hl3, hc⟩ := test_cases ht
    have e0 : testL (.tuple [.str j, .tuple ks]) = ks.flatMap wordsOf := rfl
    rw [e0] at kn
    obtain ⟨a0, a1, xs, rfl, e1, e2, ha⟩ : ∃ (a0 a1 : Addr) (xs : List V), x = .ref a0 ∧ H a0 = some (.tup [.str j, .ref a1]) ∧ H a1 = some (.tup xs) ∧ DqAll K H xs ks := by
      cases hx with
      | tup e h2 =>
        cases h2 with
        | cons h3 h4 =>
          cases h3
          cases h4 with
          | cons h5 h6 =>
            cases h6
            cases h5 with
            | tup e2 h7 => exact ⟨_, _, _, rfl, e, e2, h7⟩
    have hl := ha.len
    refine ⟨_, (pss_cons (ps_setLc (i := 2) (own := [("_law_mark", 3), ("_law_one", 4), ("_law_two", 5)]) rfl nd rfl rfl (sw_true rfl rfl rfl (by decide +kernel)) (pi_tup (pe_ix (r := rIxT K) ix_tup (pv 1) pe_int (fun _ _ => rfl))) (blkOk_by (N := ["_law_homes", "_law_quiz_here", "_law_told_here", "_law_mark", "_law_one", "_law_two"]) (sc := defScope (top 49)) (by decide +kernel)) (fun _ _ _ _ _ => (pg_tupK (K := K) (n := 3) rfl rfl (pgs_cons (pg_name (i := 3) nd rfl (Or.inl rfl) (hf := Or.inr rfl)) (pgs_cons (pg_name (i := 4) nd rfl (Or.inl rfl) (hf := Or.inr rfl)) (pgs_cons (pg_name (i := 5) nd rfl (Or.inl rfl) (hf := Or.inr rfl)) pgs_nil))) rfl rfl)) (fun _ _ _ _ _ => pts_nil) (fun _ _ _ _ _ => (pe_cmpR op_eq (pe_cmpR op_eq (pe_dget (hu_of hr) (pv 0) (pv 4) (fun _ _ => rfl)) (pe_ifExp (pt_cmpR op_eq (pv 5) pe_str (nomark _)) pe_int (pe_dget (hu_of hr) (pv 0) (pv 5) (fun _ _ => rfl))) (nomark _)) (pe_cmpR op_eq (pv 3) pe_str (nomark _)) (nomark _))))
        (pss_one (ps_ret (pe_ifExp (pt_cmpR op_eq (pe_ix (r := rIxT K) ix_tup (pv 1) pe_int (fun _ _ => rfl)) pe_str (nomark _)) (pe_callB (cr_all rfl) (by rfl) T.b_all (by decide +kernel) (pa_cons (pv 2) pa_nil)) (pe_callB (cr_any rfl) (by rfl) T.b_any (by decide +kernel) (pa_cons (pv 2) pa_nil)))))), ?_⟩
    refine sq fun U hU => ?_
    walk_at "rd"
    refine ⟨_, SqT.of e1, _, atI_nn (by decide) rfl, a1, rfl, ⟨_, SqT.of e2⟩, lc_t (xs := xs) (hoP H (cmB ns) ks) fun D hD => ⟨⟨same_new hD, upd_same⟩, fun i H6 _ hP => SqT.of (hP.1 _ _ e2), ?_, ?_⟩⟩
    · rintro i y H6 hy hP
      obtain ⟨c, hc1, hc2⟩ := ha.atV hy
      obtain ⟨b, m, a, e, rfl, eb, ka, ke, ec⟩ := comp_of (hc c (List.mem_of_getElem? hc1)) (hc2.up hP.1) (fun s hs => kn s (List.mem_flatMap.mpr ⟨c, List.mem_of_getElem? hc1, hs⟩))
      have step := hoP_step (by omega) hP hD hc1
      have e2 : decide (decide (plc ns a = plc ns e) = decide (m = Str.ofString "=")) = cmB ns c := by
        rw [ec]
        show _ = (decide (plc ns a = plc ns e) == decide (m = Str.ofString "="))
        cases decide (plc ns a = plc ns e) <;> cases decide (m = Str.ofString "=") <;> rfl
      have ei : decide ((plc ns a : Int) = plc ns e) = decide (plc ns a = plc ns e) := by
        rw [decide_eq_decide]
        omega
      unfold Lturn
      walk_at "rd"
      have fin : tOpEnd m (plc ns a) (plc ns e) (fun b => ∃ acc, H6 D = some (HO.lst acc) ∧ acc.length < sizeLine ∧ hoP H (cmB ns) ks D (i + 1) (upd H6 D (HO.lst (acc ++ [.bl b])))) := by
        unfold tOpEnd
        rw [e2]
        exact step
      refine ⟨_, SqT.of eb, rfl, _, _, rfl, _, _, rfl, _, _, rfl, rfl, _, get_l (hP.1 _ _ hdn) ka, ?_⟩
      rw [eq_ss]
      refine ⟨_, rfl, ?_⟩
      by_cases hE : e = Str.ofString "END"
      · have pe : plc ns e = 0 := if_pos hE
        rw [decide_eq_true hE, if_pos rfl, show V.int 0 = V.int (plc ns e : Nat) from by rw [pe]; rfl, eq_ii, ei]
        show rEq (.str m) (.str (Str.ofString "=")) H6 _
        rw [eq_ss]
        show rEq (.bl (decide (plc ns a = plc ns e))) (.bl (decide (m = Str.ofString "="))) H6 _
        rw [eq_bb]
        exact fin
      · rw [decide_eq_false hE, if_neg (by decide)]
        refine ⟨_, get_l (hP.1 _ _ hdn) (ke.resolve_left hE), ?_⟩
        rw [eq_ii, ei]
        show rEq (.str m) (.str (Str.ofString "=")) H6 _
        rw [eq_ss]
        show rEq (.bl (decide (plc ns a = plc ns e))) (.bl (decide (m = Str.ofString "="))) H6 _
        rw [eq_bb]
        exact fin
    · rintro H6 ⟨hs, hL⟩
      refine hU _ _ ?_
      clear hU
      rw [hl, List.take_length] at hL
      walk_at "rd"
      refine ⟨_, SqT.of (hs _ _ e1), _, atI_nn (by decide) rfl, ?_⟩
      rw [eq_ss]
      refine ⟨_, rfl, ?_⟩
      by_cases je : j = Str.ofString "and"
      · rw [decide_eq_true je, if_pos rfl]
        refine ⟨D, ks.map (cmB ns), rfl, SqL.of hL, ?_⟩
        have : tsB ns (.tuple [.str j, .tuple ks]) = (ks.map (cmB ns)).all id := by
          show (if j = "and" then ks.all (cmB ns) else ks.any (cmB ns)) = _
          rw [if_pos je, List.all_map]
          rfl
        rw [← this]
        exact k _ hs
      · rw [decide_eq_false je, if_neg (by decide)]
        refine ⟨D, ks.map (cmB ns), rfl, SqL.of hL, ?_⟩
        have : tsB ns (.tuple [.str j, .tuple ks]) = (ks.map (cmB ns)).any id := by
          show (if j = "and" then ks.all (cmB ns) else ks.any (cmB ns)) = _
          rw [if_neg je, List.any_map]
          rfl
        rw [← this]
        exact k _ hs
def dueV (ns : List (Nat × Nat)) (d : PyData) : List V := match miss ns (letL (testL d)) with
  | some s => [.str "name", .str s, .bl true]
  | none => [.str "told", .bl (tsB ns d)]
def spDue (K : PySem.W.Frag) : Sp := fun vs H Q _ => ∃ (m : Nat) (a dn dc : Addr) (ns ds : List (Nat × Nat)) (x : V) (d : PyData), vs = [.ref a, x] ∧ LSt m H a dn dc ns ds ∧ Dq K H x d ∧ isTest d = true ∧ ∀ (D : Addr) H', Same H H' → H' D = some (.lst (dueV ns d)) → Q (.ref D) H'
def duP (H : Hp) (a x : Addr) (ks : List PyData) (i : Nat) : L2.St → Hp → Prop := fun σ H' => Same H H' ∧ ∃ (p : Addr) (y z w : Option V), H' p = some (.lst (((ks.take i).flatMap wordsOf).map V.str)) ∧ ((ks.take i).flatMap wordsOf).length ≤ 2 * i ∧ σ = [some (.ref a), some (.ref x), some (.ref p), y, z, w, none]
theorem sc_due : FnScope ["_law_mine", "_law_quiz_here", "_law_some", "_law_mark", "_law_one", "_law_two", "_law_lacking_here"] ["_law_mine", "_law_quiz_here"] (defScope (top 62)) := ⟨rfl, rfl, rfl, by decide +kernel, rfl, by decide +kernel, by decide +kernel⟩
theorem ok_due {f : Addr} {fd : FuncData} (T : Th mg) (F : FD K "_law_due" (top 62) f fd) {f1 f2 : Addr} {fd1 fd2 : FuncData} (C1 : Cal P w K mg base CX0 1 "_law_lacking" ["_law_homes", "_law_some"] spLack f1 fd1) (C2 : Cal P w K mg base CX0 1 "_law_is_so" ["_law_homes", "_law_quiz_here"] (spSo K) f2 fd2) : FnOk P w K mg base CX0 2 f fd ["_law_mine", "_law_quiz_here"] (spDue K) := by
  obtain ⟨g_law_lacking, k_law_lacking, b_law_lacking, F_law_lacking⟩ := C1
  obtain ⟨g_law_is_so, k_law_is_so, b_law_is_so, F_law_is_so⟩ := C2
  refine F.ok sc_due (fun vs H Q E h => ?_) (fun cdv A outer s H vs Q E hr h => ?_)
  · obtain ⟨_, _, _, _, _, _, _, _, rfl, _⟩ := h
    rfl
  · obtain ⟨m, a, dn, dc, ns, ds, x, d, rfl, ⟨ha0, hdn, hdc, okn, okd⟩, hx, ht, k⟩ := h
    have nd := sc_due.nd
    have zl : (1000000 : Nat) ≤ sizeLine := line_big
    obtain ⟨j, ks, rfl, hj, hl3, hc⟩ := test_cases ht
    obtain ⟨a0, a1, xs, rfl, e1, e2, ha⟩ : ∃ (a0 a1 : Addr) (xs : List V), x = .ref a0 ∧ H a0 = some (.tup [.str j, .ref a1]) ∧ H a1 = some (.tup xs) ∧ DqAll K H xs ks := by
      cases hx with
      | tup e h2 =>
        cases h2 with
        | cons h3 h4 =>
          cases h3
          cases h4 with
          | cons h5 h6 =>
            cases h6
            cases h5 with
            | tup e2 h7 => exact ⟨_, _, _, rfl, e, e2, h7⟩
    have hl := ha.len
    refine ⟨_, (pss_cons (ps_set (i := 2) nd rfl (Or.inl rfl) (pe_lst pa_nil))
        (pss_cons (ps_for (passes_of rfl) rfl (pi_tup (pe_ix (r := rIxT K) ix_tup (pv 1) pe_int (fun _ _ => rfl))) (pg_tup rfl (pgs_cons (pg_name (i := 3) nd rfl (Or.inl rfl) (hf := Or.inr rfl)) (pgs_cons (pg_name (i := 4) nd rfl (Or.inl rfl) (hf := Or.inr rfl)) (pgs_cons (pg_name (i := 5) nd rfl (Or.inl rfl) (hf := Or.inr rfl)) pgs_nil)))) (pss_one (ps_set (i := 2) nd rfl (Or.inl rfl) (pe_op op_cat (pv 2) (pe_lst (pa_cons (pv 4) (pa_cons (pv 5) pa_nil)))))))
        (pss_cons (ps_set (i := 6) nd rfl (Or.inl rfl) (pe_call F_law_lacking (hr.mono (by omega)) rfl g_law_lacking k_law_lacking b_law_lacking .nil pass0 (pa_cons (pe_ix (r := rIxL K) ix_list (pv 0) pe_int (fun _ _ => rfl)) (pa_cons (pv 2) pa_nil))))
        (pss_one (ps_ret (pe_ifExp (pt_cmpR (Le.op_neLEK (K := K) rfl hr.units) (pv 6) (pe_lst pa_nil) (nomark _)) (pe_lst (pa_cons pe_str (pa_cons (pe_ix (r := rIxL K) ix_list (pv 6) pe_int (fun _ _ => rfl)) (pa_cons pe_bl pa_nil)))) (pe_lst (pa_cons pe_str (pa_cons (pe_call F_law_is_so (hr.mono (by omega)) rfl g_law_is_so k_law_is_so b_law_is_so .nil pass0 (pa_cons (pe_ix (r := rIxL K) ix_list (pv 0) pe_int (fun _ _ => rfl)) (pa_cons (pv 1) pa_nil))) pa_nil))))))))), ?_⟩
    refine sq fun U hU => ?_
    walk_at "rd"
    refine ⟨Nat.zero_le _, fun p hp => hU _ _ ?_⟩
    clear hU
    have s1 : Same H (upd H p (.lst [])) := same_new hp
    have f1 : upd H p (.lst []) p = some (.lst []) := upd_same
    generalize upd H p (.lst []) = H1 at s1 f1 ⊢
    refine sq fun U hU => ?_
    walk_at "rd"
    refine ⟨_, SqT.of (s1 _ _ e1), _, atI_nn (by decide) rfl, a1, rfl, ⟨_, SqT.of (s1 _ _ e2)⟩, for_t (xs := xs) (duP H a a0 ks) ⟨s1, p, none, none, none, f1, Nat.le_refl _, rfl⟩ (fun i σ H' _ hP => SqT.of (hP.1 _ _ e2)) ?_ ?_⟩
    · rintro i y σ H' hy ⟨hs, q, y1, y2, y3, hq, lq, rfl⟩
      obtain ⟨c, hc1, hc2⟩ := ha.atV hy
      obtain ⟨b, m', a', e, rfl, eb, la, ge, wc⟩ := comp_dq (hc c (List.mem_of_getElem? hc1)) (hc2.up hs)
      have et : (ks.take (i + 1)).flatMap wordsOf = (ks.take i).flatMap wordsOf ++ [a', e] := by
        rw [List.take_succ, hc1, List.flatMap_append]
        show _ ++ (wordsOf c ++ []) = _
        rw [wc]; simp
      have il : i < 3 := by
        have := (List.getElem?_eq_some_iff.mp hc1).1
        omega
      walk_at "rd"
      refine ⟨_, SqT.of eb, rfl, _, _, rfl, _, _, rfl, _, _, rfl, rfl, ?_⟩
      refine ⟨by omega, fun p1 hp1 => ⟨_, same_new hp1 _ _ hq, _, upd_same, by rw [List.length_map]; simp only [List.length_cons, List.length_nil]; omega, fun p2 hp2 => ?_⟩⟩
      refine ⟨hs.trans ((same_new hp1).trans (same_new hp2)), p2, _, _, _, ?_, by rw [et, List.length_append]; simp only [List.length_cons, List.length_nil]; omega, rfl⟩
      rw [upd_same, et, List.map_append]
      rfl
    · rintro σ H' ⟨hs, q, y1, y2, y3, hq, lq, rfl⟩
      rw [hl, List.take_length] at hq lq
      refine hU _ _ ?_
      clear hU
      refine sq fun U hU => ?_
      walk_at "rd"
      refine ⟨_, SqL.of (hs _ _ ha0), _, rfl, dn, q, ns, _, rfl, hs _ _ hdn, hq, fun s hs' => ?_, by omega, fun D ls H2 s2 hL hh l20 => hU _ _ ?_⟩
      · obtain ⟨c, hcm, hsc⟩ := List.mem_flatMap.mp hs'
        obtain ⟨m', a', e, rfl, hm2, ha2, he2⟩ := comp_cases (hc c hcm)
        have hsc : s ∈ [a', e] := hsc
        simp only [List.mem_cons, List.not_mem_nil, or_false] at hsc
        rcases hsc with rfl | rfl
        · exact l_goal ha2
        · exact he2
      clear hU
      have s02 := hs.trans s2
      walk_at "rd"
      refine ⟨Nat.zero_le _, fun p hp => ⟨_, SqL.of (same_new hp _ _ hL), SqL.of upd_same, ?_⟩⟩
      have s3 := s02.trans (same_new (o := .lst []) hp)
      have hL3 : upd H2 p (.lst []) D = some (.lst (ls.map V.str)) := same_new hp _ _ hL
      generalize upd H2 p (.lst []) = H3 at s3 hL3 ⊢
      cases ls with
      | nil =>
        rw [if_neg (fun z => z rfl)]
        have hm : miss ns (letL (testL (.tuple [.str j, .tuple ks]))) = none := hh.symm
        refine ⟨_, SqL.of (s3 _ _ ha0), _, rfl, dn, ns, .ref a0, _, rfl, s3 _ _ hdn, hx.up s3, ht, known_of ht hm, fun H4 s4 => ⟨by omega, fun D2 hD2 => k D2 _ (s3.trans (s4.trans (same_new hD2))) ?_⟩⟩
        rw [upd_same]
        unfold dueV
        rw [hm]
      | cons s r =>
        rw [if_pos (fun z => by cases z)]
        have hm : miss ns (letL (testL (.tuple [.str j, .tuple ks]))) = some s := hh.symm
        refine ⟨_, SqL.of hL3, _, atI_nn (by decide) rfl, by omega, fun D2 hD2 => k D2 _ (s3.trans (same_new hD2)) ?_⟩
        rw [upd_same]
        unfold dueV
        rw [hm]
end
end K40

set_option Elab.async false
set_option linter.all false
set_option maxRecDepth 100000
set_option maxHeartbeats 4000000
namespace K40
open PySem PySem.Spec PyProof.Rows L2 Rd Dt Dq Pk Ln En Sx Sy So Sr Lk TL
open K40S (StA StB StM LSt HpA HpB spMade spTxt map_at kit_self sorted_names keys_n keys_c get_n get_d DcOk asc_nodup nuP nuP_step vN)
local macro_rules | `(tactic| walk_at "rd") => `(tactic| try simp only [↓De.tFor_str, ↓Lk.tLockE_, ↓Lk.tLock_, ↓Lk.tLc_keys, ↓Lk.tFor_keys, ↓Sy.tTupP_, ↓Sy.rTupP_, ↓Sy.rCatP_, ↓Sy.rSlP_, ↓Sy.rDictT_, ↓Sy.tDGet_, ↓Sy.tDGet1_, ↓Sy.tDIn_, ↓Sy.tDNotIn_, ↓Sy.tMeth_, ↓Sy.tMethKw_, ↓Sy.rSortedS_, ↓Sx.rIsT_, ↓En.tFor_enumT, ↓Sy.tFor_enumL, ↓Rv.tMakeKw_, ↓Prp.tProp_, ↓Lo.tBits_, ↓Lo.tJs_n, ↓Lo.tJs_c, ↓Lo.tFmt_, ↓Lo.gFld_, ↓Lo.tMake_, ↓Lo.rOwn_, ↓Rg.tFor_range3, ↓Rg.tLc_range3, ↓Rg.tLstC_, ↓Rg.tLc_rngV, ↓Le.rNeLE_, ↓Le.rEqLE_, ↓Ls.tLc_str, ↓Ls.sDPut_, ↓Rl.rReprL_, ↓Rl.tCallKS_, ↓Ob.tFld_, ↓Ob.sFld_, ↓tVar_, ↓tC_, ↓tM1, ↓tDNewK_, ↓tOp_, ↓tUn_, ↓rI_, ↓rI0_, ↓rU_, ↓eq_ii, ↓ne_ii, ↓eq_ss, ↓ne_ss, ↓eq_bb, ↓ne_bb, ↓tAndV_, ↓tOrV_, ↓tNotV_, ↓tIf_, ↓tTest_, ↓tB_, ↓tAnd_, ↓tOr_, ↓tNot_, ↓tChain_, ↓tNil_, ↓tCons_, ↓tTup_, ↓tLst_, ↓tCB_, ↓tCall_, ↓tSeq_, ↓tNext_, ↓tRet_, ↓tRetN_, ↓tDrop_, ↓tBreak_, ↓tNever_, ↓tIfS_, ↓tAsg_, ↓gName_, ↓gTup_, ↓gCons_, ↓gNil_, ↓gSub_, ↓tPar_, ↓tPar3_, ↓tSl_, ↓tNoPart_, ↓tPart_, ↓tBM_, ↓tFor_range1, ↓tFor_range2, ↓tFor_list, ↓tFor_tup, L2.start, List.headD_cons, List.headD_nil, List.tail_cons, List.map_cons, List.map_nil, List.length_cons, List.length_nil, List.replicate, List.append_nil, List.nil_append, List.cons_append, List.getElem?_cons_zero, List.getElem?_cons_succ, List.set_cons_zero, List.set_cons_succ, Option.some.injEq, V.int.injEq, V.bl.injEq, V.str.injEq, V.ref.injEq, exists_eq_left, exists_eq_left', exists_eq_right, exists_eq, exists_and_left, and_true, true_and, decide_eq_true_eq, Nat.reduceAdd, Nat.reduceSub, Nat.add_zero, Nat.zero_add, List.cons.injEq, Bool.not_eq_true', decide_eq_false_iff_not, eq_self, reduceCtorEq, Bool.false_eq_true, if_true, if_false, ite_true, ite_false, and_self, ↓tLc_range1, ↓tLc_range2, ↓tLc_list, ↓tLc_tup, ↓tYes_, wipe0, wipe1, ↓tCallS_, ↓rIxL_, ↓rIxT_, ↓rSlL_, ↓rCat_, ↓rSetL_, ↓rRep_, ↓rGcd_, ↓tCallK_, ↓gUnl_, ↓tRaise_, decide_true, decide_false, not_true_eq_false, not_false_eq_true, false_and, or_false, false_or, and_false, and_assoc, exists_const, forall_const, forall_eq'])
section
variable {P : Program} {w : World} {K : PySem.W.Frag} {mg : Str → Option Value} {base : Heap}
/-! ### the law's drawn store -/
def spDrawn : Sp := fun vs H Q _ => ∃ (u : Addr) (z : Str), vs = [.ref u, .str z, .int 3] ∧ WellAt H u ∧ z.cps.toList.Pairwise (· < ·) ∧ (∀ c ∈ z.cps.toList, 97 ≤ c ∧ c ≤ 122) ∧ 1 ≤ z.cps.toList.length ∧ z.cps.toList.length ≤ 4 ∧
  ∀ (a dn dc : Addr) (ns ds : List (Nat × Nat)) (H' : Hp), But u H H' → WellAt H' u → LSt 3 H' a dn dc ns ds → ns.map (·.1) = z.cps.toList → a ≠ u → dn ≠ u → dc ≠ u → Q (.ref a) H'
def plF (far k : Nat) : Nat := if far < 4 then k + 1 else 11 * k + 7 * far + 400
def plP (H : Hp) (far : Nat) (D : Addr) (i : Nat) (H' : Hp) : Prop := Same H H' ∧ H' D = some (.lst (((List.range i).map (plF far)).map vN))
theorem wl_put {H : Hp} {u x : Addr} {o : HO} (h : WellAt H u) (n : x ≠ u) : WellAt (upd H x o) u := by
  obtain ⟨q1, q2, q3, e⟩ := h
  exact ⟨q1, q2, q3, by rw [upd_ne (Ne.symm n)]; exact e⟩
theorem six {d n : Nat} (h : d < n) : seqIndex? (d : Int) n = some d := by
  unfold seqIndex?
  simp
  omega
theorem map_eraseIdx' {α β : Type} (f : α → β) : ∀ (l : List α) (i : Nat), (l.eraseIdx i).map f = (l.map f).eraseIdx i
  | [], _ => rfl
  | _ :: _, 0 => rfl
  | x :: l, i + 1 => by
    show f x :: (l.eraseIdx i).map f = f x :: (l.map f).eraseIdx i
    rw [map_eraseIdx' f l i]
theorem perm_idx {α : Type} : ∀ (l : List α) (i : Nat) (h : i < l.length), ([l[i]] ++ l.eraseIdx i).Perm l
  | x :: l, 0, _ => List.Perm.refl _
  | x :: l, i + 1, h => by
    have := perm_idx l i (by simpa using h)
    show (l[i]'(by simpa using h) :: x :: l.eraseIdx i).Perm (x :: l)
    exact (List.Perm.swap _ _ _).trans (this.cons x)
def d2P (H : Hp) (u PL SP DN DL : Addr) (z : Str) (n far : Nat) (ss : List Nat) (p0 p1 : Nat) (y : Option V) (i : Nat) : L2.St → Hp → Prop := fun σ H' => But u H H' ∧ WellAt H' u ∧ H' DN = some (.dK []) ∧ H' SP = some (.lst (ss.map vN)) ∧ H' PL = some (.lst [vN p0, vN p1]) ∧ ∃ (ds : List (Nat × Nat)) (k w : Option V), H' DL = some (.dK (ds.map ck)) ∧ DcOk i ds ∧
  σ = [some (.ref u), some (.str z), some (.int 3), some (.int n), some (.int far), k, some (.ref PL), some (.ref SP), some (.ref DN), some (.ref DL), y, w, none]
def d3P (H : Hp) (u PL SP DN DL : Addr) (z : Str) (n far : Nat) (ss : List Nat) (p0 p1 : Nat) (ds : List (Nat × Nat)) (k y w : Option V) (i : Nat) : L2.St → Hp → Prop := fun σ H' => But u H H' ∧ WellAt H' u ∧ H' SP = some (.lst (ss.map vN)) ∧ H' PL = some (.lst [vN p0, vN p1]) ∧ H' DL = some (.dK (ds.map ck)) ∧ ∃ (ns : List (Nat × Nat)) (x : Option V), H' DN = some (.dK (ns.map nk)) ∧ ns.map (·.1) = z.cps.toList.take i ∧ (∀ n ∈ ns, n.2 ≤ 999) ∧
  σ = [some (.ref u), some (.str z), some (.int 3), some (.int n), some (.int far), k, some (.ref PL), some (.ref SP), some (.ref DN), some (.ref DL), y, w, x]
def d1P (H : Hp) (u PL SP DN DL : Addr) (z : Str) (n far : Nat) (i : Nat) : L2.St → Hp → Prop := fun σ H' => But u H H' ∧ WellAt H' u ∧ H' DN = some (.dK []) ∧ H' DL = some (.dK []) ∧ ∃ (ss ps : List Nat) (y : Option V), H' SP = some (.lst (ss.map vN)) ∧ H' PL = some (.lst (ps.map vN)) ∧
  (ss ++ ps).Nodup ∧ (∀ p ∈ ss ++ ps, 1 ≤ p ∧ p ≤ 999) ∧ ss.length = i ∧ ps.length = n + 2 - i ∧ σ = [some (.ref u), some (.str z), some (.int 3), some (.int n), some (.int far), none, some (.ref PL), some (.ref SP), some (.ref DN), some (.ref DL), y, none, none]
theorem sc_drawn : FnScope ["_law_well_here", "_law_signs", "_law_limit", "_law_often", "_law_far", "_law_k", "_law_pool", "_law_spots", "_law_homes", "_law_links", "_law_turn", "_law_near", "_law_sign"] ["_law_well_here", "_law_signs", "_law_limit"] (defScope (top 46)) := ⟨rfl, rfl, rfl, by decide +kernel, rfl, by decide +kernel, by decide +kernel⟩
theorem ok_drawn {f : Addr} {fd : FuncData} (T : Th mg) (F : FD K "_law_drawn" (top 46) f fd) {f1 f2 : Addr} {fd1 fd2 : FuncData} (C1 : Cal P w K mg base CX0 1 "_law_take" ["_law_well_here", "_law_limit"] spTake f1 fd1) (C2 : Cal P w K mg base CX0 2 "_law_pick" ["_law_well_here", "_law_some"] spPick f2 fd2) : FnOk P w K mg base CX0 3 f fd ["_law_well_here", "_law_signs", "_law_limit"] spDrawn := by
  obtain ⟨g_law_take, k_law_take, b_law_take, F_law_take⟩ := C1
  obtain ⟨g_law_pick, k_law_pick, b_law_pick, F_law_pick⟩ := C2
  refine F.ok sc_drawn (fun vs H Q E h => ?_) (fun cdv A outer s H vs Q E hr h => ?_)
  · obtain ⟨_, _, rfl, _⟩ := h
    rfl
  · obtain ⟨u, z, rfl, hw, zp, zr, z1, z4, k⟩ := h
    have nd := sc_drawn.nd
    have zl : (1000000 : Nat) ≤ sizeLine := line_big
    have wne : ∀ N (H' : Hp), WellAt H' u → H' N = none → N ≠ u := fun N H' w' hn q => by
      obtain ⟨_, _, _, e⟩ := w'
      rw [q, e] at hn
      cases hn
    refine ⟨_, (pss_cons (ps_asg (pe_tup (pa_cons (pe_call F_law_take (hr.mono (by omega)) rfl g_law_take k_law_take b_law_take .nil pass0 (pa_cons (pv 0) (pa_cons (pe_op op_add (pv 2) pe_int) pa_nil))) (pa_cons (pe_call F_law_take (hr.mono (by omega)) rfl g_law_take k_law_take b_law_take .nil pass0 (pa_cons (pv 0) (pa_cons pe_int pa_nil))) pa_nil))) (pg_tup rfl (pgs_cons (pg_name (i := 3) nd rfl (Or.inl rfl) (hf := Or.inr rfl)) (pgs_cons (pg_name (i := 4) nd rfl (Or.inr rfl) (hf := Or.inl rfl)) pgs_nil))))
        (pss_cons (ps_setLc (i := 6) (own := [("_law_k", 5)]) rfl nd rfl rfl (sw_true rfl rfl rfl (by decide +kernel)) (pi_range1 rfl T.b_range (pa_cons (pe_op op_add (pv 3) pe_int) pa_nil)) (blkOk_by (N := ["_law_well_here", "_law_signs", "_law_limit", "_law_often", "_law_far", "_law_k", "_law_pool", "_law_spots", "_law_homes", "_law_links", "_law_turn", "_law_near", "_law_sign"]) (sc := defScope (top 46)) (by decide +kernel)) (fun _ _ _ _ _ => (pg_name (i := 5) nd rfl (Or.inl rfl))) (fun _ _ _ _ _ => pts_nil) (fun _ _ _ _ _ => (pe_ifExp (pt_cmpR op_lt (pv 4) pe_int (nomark _)) (pe_op op_add (pv 5) pe_int) (pe_op op_add (pe_op op_add (pe_op op_mul pe_int (pv 5)) (pe_op op_mul pe_int (pv 4))) pe_int))))
        (pss_cons (ps_par3 rfl nd (i := 7) (j := 8) (l := 9) rfl rfl rfl (by decide) (by decide) (by decide) rfl rfl rfl (pa_cons (pe_lst pa_nil) (pa_cons pe_dnewK (pa_cons pe_dnewK pa_nil))) rfl)
        (pss_cons (ps_for (passes_of rfl) rfl (pi_range1 rfl T.b_range (pa_cons (pv 3) pa_nil)) (pg_name (i := 10) nd rfl (Or.inl rfl)) (pss_one (ps_expr (pe_bm PySem.F.plainAttrs_list PySem.F.slot_list_append PySem.F.type_list_append mt_append (pv 7) (pa_cons (pe_bm PySem.F.plainAttrs_list PySem.F.slot_list_pop PySem.F.type_list_pop mt_popAt (pv 6) (pa_cons (pe_call F_law_take (hr.mono (by omega)) rfl g_law_take k_law_take b_law_take .nil pass0 (pa_cons (pv 0) (pa_cons (pe_callB call_len_seq (by rfl) T.b_len PySem.boot_len (pa_cons (pv 6) pa_nil)) pa_nil))) pa_nil)) pa_nil)))))
        (pss_cons (ps_for (passes_of rfl) rfl (pi_range1 rfl T.b_range (pa_cons (pv 3) pa_nil)) (pg_name (i := 5) nd rfl (Or.inl rfl)) (pss_cons (ps_set (i := 11) nd rfl (Or.inl rfl) (pe_ifExp (pt_cmpR op_lt (pe_op op_add (pv 5) pe_int) (pv 3) (nomark _)) (pe_ix (r := rIxL K) ix_list (pv 7) (pe_op op_add (pv 5) pe_int) (fun _ _ => rfl)) pe_int))
        (pss_one (ps_dput (hu_of hr) (pv 9) (pe_ix (r := rIxL K) ix_list (pv 7) (pv 5) (fun _ _ => rfl)) (pe_ifExp (pt_cmpR op_gt (pe_call F_law_take (hr.mono (by omega)) rfl g_law_take k_law_take b_law_take .nil pass0 (pa_cons (pv 0) (pa_cons pe_int pa_nil))) pe_int (nomark _)) (pv 11) (pe_call F_law_pick (hr.mono (by omega)) rfl g_law_pick k_law_pick b_law_pick .nil pass0 (pa_cons (pv 0) (pa_cons (pe_op op_cat (pv 7) (pe_lst (pa_cons pe_int (pa_cons pe_int (pa_cons (pe_ix (r := rIxL K) ix_list (pv 6) pe_int (fun _ _ => rfl)) (pa_cons (pe_ix (r := rIxL K) ix_list (pv 6) pe_int (fun _ _ => rfl)) pa_nil)))))) pa_nil)))) rfl))))
        (pss_cons (ps_for (passes_of rfl) rfl (pi_str (pv 1)) (pg_name (i := 12) nd rfl (Or.inl rfl)) (pss_one (ps_dput (hu_of hr) (pv 8) (pv 12) (pe_call F_law_pick (hr.mono (by omega)) rfl g_law_pick k_law_pick b_law_pick .nil pass0 (pa_cons (pv 0) (pa_cons (pe_op op_cat (pe_op op_cat (pv 7) (pv 7)) (pe_lst (pa_cons pe_int (pa_cons (pe_ix (r := rIxL K) ix_list (pv 6) pe_int (fun _ _ => rfl)) (pa_cons (pe_ix (r := rIxL K) ix_list (pv 6) pe_int (fun _ _ => rfl)) pa_nil))))) pa_nil))) rfl)))
        (pss_one (ps_ret (pe_lst (pa_cons (pv 8) (pa_cons (pv 9) pa_nil))))))))))), ?_⟩
    refine sq fun U hU => ?_
    walk_at "rd"
    refine ⟨u, 4, rfl, hw, by decide, by decide, fun n H1 b1 w1 n0 n3 => ⟨u, 6, rfl, w1, by decide, by decide, fun far H2 b2 w2 f0 f5 => ?_⟩⟩
    obtain ⟨n, rfl⟩ : ∃ m : Nat, n = m := ⟨n.toNat, by omega⟩
    obtain ⟨far, rfl⟩ : ∃ m : Nat, far = m := ⟨far.toNat, by omega⟩
    refine ⟨by omega, fun p hp => ⟨_, SqT.of upd_same, rfl, _, _, rfl, _, _, rfl, rfl, hU _ _ ?_⟩⟩
    clear hU
    have B3 := (b1.trans b2).trans (But.same (same_new (o := .tup [.int n, .int far]) hp))
    have w3 := w2.but (same_new (o := .tup [.int n, .int far]) hp)
    generalize upd H2 p (.tup [.int n, .int far]) = H3 at B3 w3 ⊢
    clear b1 b2 w1 w2 hp
    refine sq fun U hU => ?_
    walk_at "rd"
    refine ⟨by omega, by omega, lc_r (plP H3 far) fun PL hPL => ⟨⟨same_new hPL, upd_same⟩, ?_, ?_⟩⟩
    · rintro i H' hi ⟨hs, hL⟩
      have et : (List.range (i + 1)).map (plF far) = (List.range i).map (plF far) ++ [plF far i] := by rw [List.range_succ, List.map_append]; rfl
      have step : ∃ acc, H' PL = some (.lst acc) ∧ acc.length < sizeLine ∧ plP H3 far PL (i + 1) (upd H' PL (.lst (acc ++ [vN (plF far i)]))) := by
        refine ⟨_, hL, by rw [List.length_map, List.length_map, List.length_range]; omega, fun b o e => ?_, ?_⟩
        · rw [upd_ne (ne_of_none e hPL)]
          exact hs _ _ e
        · rw [upd_same, et, List.map_append]
          rfl
      unfold Lturn
      walk_at "rd"
      have hi2 : i < n + 2 := by omega
      by_cases c : far < 4
      · have e : plF far i = i + 1 := if_pos c
        rw [if_pos (by omega)]
        rw [e] at step
        have e3 : (0 + (i : Int) + 1) = ((i + 1 : Nat) : Int) := by omega
        rw [e3]
        exact step
      · have e : plF far i = 11 * i + 7 * far + 400 := if_neg c
        rw [if_neg (by omega)]
        rw [e] at step
        have e3 : (11 * (0 + (i : Int)) + 7 * far + 400) = ((11 * i + 7 * far + 400 : Nat) : Int) := by omega
        rw [e3]
        exact ⟨.inl ⟨by omega, by omega⟩, .inl ⟨by omega, by omega⟩, step⟩
    rintro H4 ⟨s4, hP4⟩
    rw [show ((n : Int) + 2).toNat = n + 2 from by omega] at hP4
    refine hU _ _ ?_
    clear hU
    have B4 := B3.trans (But.same s4)
    have w4 := w3.but s4
    have nPu : PL ≠ u := wne PL H3 w3 hPL
    have zPL : H PL = none := by
      cases ep : H PL with
      | none => rfl
      | some o => rw [B3 _ _ nPu ep] at hPL; cases hPL
    clear B3 w3 s4
    obtain ⟨ps0, e0, nd0, rg0, ln0⟩ : ∃ ps : List Nat, (List.range (n + 2)).map (plF far) = ps ∧ ps.Nodup ∧ (∀ p ∈ ps, 1 ≤ p ∧ p ≤ 999) ∧ ps.length = n + 2 := by
      refine ⟨_, rfl, ?_, fun p hp => ?_, by rw [List.length_map, List.length_range]⟩
      · refine List.Pairwise.imp_of_mem (?_ : ∀ {a b}, a ∈ _ → b ∈ _ → a < b → a ≠ b) ?_
        · intro a b _ _ h; omega
        · rw [List.pairwise_map]
          refine List.pairwise_lt_range.imp fun {a b} h => ?_
          unfold plF
          split <;> omega
      · obtain ⟨k, hk, rfl⟩ := List.mem_map.mp hp
        have := List.mem_range.mp hk
        unfold plF
        split <;> omega
    rw [e0] at hP4
    clear e0
    refine sq fun U hU => ?_
    walk_at "rd"
    refine ⟨Nat.zero_le _, fun SP hSP DN hDN DL hDL => hU _ _ ?_⟩
    clear hU
    have nSu : SP ≠ u := wne SP H4 w4 hSP
    have nNu : DN ≠ u := wne DN _ (w4.but (same_new (o := .lst []) hSP)) hDN
    have nLu : DL ≠ u := wne DL _ ((w4.but (same_new (o := .lst []) hSP)).but (same_new (o := .dK []) hDN)) hDL
    have t1 := same_new (o := .lst []) hSP
    have t2 := same_new (o := .dK []) hDN
    have t3 := same_new (o := .dK []) hDL
    have t := (t1.trans t2).trans t3
    have nPS : PL ≠ SP := ne_of_none hP4 hSP
    have nPN : PL ≠ DN := ne_of_none (t1 _ _ hP4) hDN
    have nPL : PL ≠ DL := ne_of_none (t2 _ _ (t1 _ _ hP4)) hDL
    have nSN : SP ≠ DN := ne_of_none (o := .lst []) (upd_same) hDN
    have nSL : SP ≠ DL := ne_of_none (o := .lst []) (t2 _ _ upd_same) hDL
    have nNL : DN ≠ DL := ne_of_none (o := .dK []) upd_same hDL
    have hS5 := t3 _ _ (t2 _ _ (upd_same (H := H4) (a := SP) (o := .lst [])))
    have hN5 := t3 _ _ (upd_same (H := upd H4 SP (.lst [])) (a := DN) (o := .dK []))
    have hL5 : upd (upd (upd H4 SP (.lst [])) DN (.dK [])) DL (.dK []) DL = some (.dK []) := upd_same
    have hP5 := t _ _ hP4
    have B5 := B4.trans (But.same t)
    have w5 := w4.but t
    generalize upd (upd (upd H4 SP (.lst [])) DN (.dK [])) DL (.dK []) = H5 at hS5 hN5 hL5 hP5 B5 w5 ⊢
    have fresh : ∀ N, N ≠ u → H4 N = none → H N = none := fun N hn h6 => by
      cases ep : H N with
      | none => rfl
      | some o => rw [B4 _ _ hn ep] at h6; cases h6
    have back : ∀ {G : Hp} {q : Addr} {o : HO} {N : Addr}, H4 q = none → upd H4 q o N = none → H4 N = none := fun {G q o N} hq e => by
      cases ep : H4 N with
      | none => rfl
      | some o2 => rw [same_new hq _ _ ep] at e; cases e
    have zSP := fresh SP nSu hSP
    have zDN : H DN = none := fresh DN nNu (back (G := H4) hSP hDN)
    have zDL : H DL = none := fresh DL nLu (by
      cases ep : H4 DL with
      | none => rfl
      | some o2 => rw [t2 _ _ (t1 _ _ ep)] at hDL; cases hDL)
    clear fresh back t t1 t2 t3 hSP hDN hDL hP4 w4
    refine sq fun U hU => ?_
    walk_at "rd"
    refine ⟨by omega, by omega, for_r (d1P H u PL SP DN DL z n far) ⟨B5, w5, hN5, hL5, [], ps0, none, hS5, hP5, nd0, rg0, rfl, ln0, rfl⟩ ?_ ?_⟩
    · rintro i σ H' hi ⟨hb, wl, hN, hL, ss, ps, y, hS, hP, ndp, rgp, ls, lp, rfl⟩
      have hi2 : i < n := by omega
      walk_at "rd"
      refine ⟨.inl ⟨rfl, _, SqL.of hS⟩, .inl ⟨rfl, _, SqL.of hP⟩, _, .inl (SqL.of hP), u, _, rfl, wl, by rw [List.length_map]; omega, by rw [List.length_map]; omega, fun d G bG wG d0 d1 => ?_⟩
      rw [List.length_map] at d1
      obtain ⟨d, rfl⟩ : ∃ m : Nat, d = m := ⟨d.toNat, by omega⟩
      have hd : d < ps.length := by omega
      have hPG := bG _ _ nPu hP
      have hSG := bG _ _ nSu hS
      have perm : (ss ++ [ps[d]] ++ ps.eraseIdx d).Perm (ss ++ ps) := by
        rw [List.append_assoc]
        exact List.Perm.append_left _ (perm_idx ps d hd)
      refine ⟨PL, ps.map vN, d, d, vN ps[d], rfl, rfl, hPG, by omega, by omega, six (by rw [List.length_map]; exact hd), by rw [List.getElem?_map, List.getElem?_eq_getElem hd]; rfl, SP, _, _, rfl, rfl, by rw [upd_ne (Ne.symm nPS)]; exact hSG, by rw [List.length_map]; omega, ?_⟩
      refine ⟨fun b o nb eb => ?_, ?_, ?_, ?_, ss ++ [ps[d]], ps.eraseIdx d, _, ?_, ?_, perm.nodup_iff.mpr ndp, fun p hp => rgp p (perm.mem_iff.mp hp), by rw [List.length_append, ls]; rfl, by rw [List.length_eraseIdx_of_lt hd]; omega, rfl⟩
      · rw [upd_ne (ne_of_none eb zSP), upd_ne (ne_of_none eb zPL)]
        exact bG _ _ nb (hb _ _ nb eb)
      · exact wl_put (wl_put wG nPu) nSu
      · rw [upd_ne (Ne.symm nSN), upd_ne (Ne.symm nPN)]; exact bG _ _ nNu hN
      · rw [upd_ne (Ne.symm nSL), upd_ne (Ne.symm nPL)]; exact bG _ _ nLu hL
      · rw [upd_same, List.map_append]; rfl
      · rw [upd_ne nPS, upd_same]
        congr 2
        exact (map_eraseIdx' _ _ _).symm
    rintro σ H6 ⟨hb, wl, hN, hL, ss, ps, y, hS, hP, ndp, rgp, ls, lp, rfl⟩
    rw [show ((n : Int)).toNat = n from by omega] at ls lp
    refine hU _ _ ?_
    clear hU
    obtain ⟨p0, p1, rfl⟩ : ∃ a b, ps = [a, b] := by
      have l2 : ps.length = 2 := by omega
      match ps, l2 with
      | [a, b], _ => exact ⟨a, b, rfl⟩
    have r0 := rgp p0 (List.mem_append_right _ (List.mem_cons_self ..))
    have r1 := rgp p1 (List.mem_append_right _ (List.mem_cons_of_mem _ (List.mem_cons_self ..)))
    have rs : ∀ p ∈ ss, 1 ≤ p ∧ p ≤ 999 := fun p hp => rgp p (List.mem_append_left _ hp)
    clear ndp rgp lp
    refine sq fun U hU => ?_
    walk_at "rd"
    refine ⟨by omega, by omega, for_r (d2P H u PL SP DN DL z n far ss p0 p1 y) ⟨hb, wl, hN, hS, hP, [], none, none, hL, ⟨Nat.le_refl _, fun _ q => (nomatch q), List.nodup_nil⟩, rfl⟩ ?_ ?_⟩
    · rintro i σ H' hi ⟨hb, wl, hN, hS, hP, ds, k0, w0, hL, okd, rfl⟩
      have hi2 : i < n := by omega
      have lds := okd.1
      walk_at "rd"
      have hi3 : i < ss.length := by omega
      have rc := rs ss[i] (List.getElem_mem hi3)
      have at0 : atI (ss.map vN) (0 + (i : Int)) = some (vN ss[i]) := atI_nn (by omega) (by rw [show (0 + (i : Int)).toNat = i from by omega, List.getElem?_map, List.getElem?_eq_getElem hi3]; rfl)
      have fin : ∀ (G : Hp) (bG : But u H' G) (wG : WellAt G u) (v : Nat), v ≤ 999 → ∀ wv : V, ∃ x, SqL K G SP x ∧ ∃ x_2, atI x (0 + (i : Int)) = some x_2 ∧ ∃ x, DPut G DL x_2 (vN v) x ∧ d2P H u PL SP DN DL z n far ss p0 p1 y (i + 1) [some (.ref u), some (.str z), some (.int 3), some (.int n), some (.int far), some (.int (0 + i)), some (.ref PL), some (.ref SP), some (.ref DN), some (.ref DL), y, some wv, none] x := fun G bG wG v hv wv => by
        have hLG := bG _ _ nLu hL
        refine ⟨_, SqL.of (bG _ _ nSu hS), _, at0, _, .k (k := Sum.inl (ss[i] : Int)) hLG (by rw [List.length_map]; omega), fun b o nb eb => ?_, wl_put wG nLu, ?_, ?_, ?_, K40S.putN ds ss[i] v, _, _, ?_, K40S.putN_ok okd rc.1 rc.2 hv, rfl⟩
        · rw [upd_ne (ne_of_none eb zDL)]
          exact bG _ _ nb (hb _ _ nb eb)
        · rw [upd_ne nNL]; exact bG _ _ nNu hN
        · rw [upd_ne nSL]; exact bG _ _ nSu hS
        · rw [upd_ne nPL]; exact bG _ _ nPu hP
        · rw [upd_same, ← K40S.putK_ck]
      by_cases c : 0 + (i : Int) + 1 < n
      · have hi4 : i + 1 < ss.length := by omega
        rw [if_pos c]
        refine ⟨_, SqL.of hS, vN ss[i + 1], atI_nn (by omega) (by rw [show (0 + (i : Int) + 1).toNat = i + 1 from by omega, List.getElem?_map, List.getElem?_eq_getElem hi4]; rfl), ?_⟩
        refine ⟨u, 3, rfl, wl, by decide, by decide, fun t G bG wG t0 t1 => ⟨t, rfl, ?_⟩⟩
        by_cases ct : 0 < t
        · rw [if_pos ct]
          exact fin G bG wG _ (rs _ (List.getElem_mem hi4)).2 _
        · rw [if_neg ct]
          refine ⟨_, SqL.of (bG _ _ nPu hP), _, atI_nn (by decide) rfl, _, SqL.of (bG _ _ nPu hP), _, atI_nn (by decide) rfl, by omega, fun q1 hq1 => ⟨_, same_new hq1 _ _ (bG _ _ nSu hS), _, upd_same, by simp only [List.length_map, List.length_cons, List.length_nil]; omega, fun q2 hq2 => ?_⟩⟩
          have n2u : q2 ≠ u := wne q2 _ (wG.but (same_new hq1)) hq2
          have tG : Same G (upd (upd G q1 (.lst [.int 0, .int 0, vN p0, vN p1])) q2 (.lst (ss.map vN ++ [.int 0, .int 0, vN p0, vN p1]))) := (same_new hq1).trans (same_new hq2)
          refine ⟨u, .ref q2, _, rfl, wG.but tG, fun zz => n2u (by injection zz), .lst upd_same, by simp, by simp only [List.length_append, List.length_map, List.length_cons, List.length_nil]; omega, fun v G3 b3 w3 hv => ?_⟩
          obtain ⟨m, rfl, hm⟩ : ∃ m : Nat, v = vN m ∧ m ≤ 999 := by
            rcases List.mem_append.mp hv with hv | hv
            · obtain ⟨m, hm, rfl⟩ := List.mem_map.mp hv
              exact ⟨m, rfl, (rs m hm).2⟩
            · simp only [List.mem_cons, List.not_mem_nil, or_false] at hv
              rcases hv with rfl | rfl | rfl | rfl
              · exact ⟨0, rfl, by omega⟩
              · exact ⟨0, rfl, by omega⟩
              · exact ⟨p0, rfl, r0.2⟩
              · exact ⟨p1, rfl, r1.2⟩
          exact fin G3 ((bG.trans (But.same tG)).trans b3) w3 m hm _
      · rw [if_neg c]
        refine ⟨u, 3, rfl, wl, by decide, by decide, fun t G bG wG t0 t1 => ⟨t, rfl, ?_⟩⟩
        by_cases ct : 0 < t
        · rw [if_pos ct]
          exact fin G bG wG _ (show (0 : Nat) ≤ 999 by omega) _
        · rw [if_neg ct]
          refine ⟨_, SqL.of (bG _ _ nPu hP), _, atI_nn (by decide) rfl, _, SqL.of (bG _ _ nPu hP), _, atI_nn (by decide) rfl, by omega, fun q1 hq1 => ⟨_, same_new hq1 _ _ (bG _ _ nSu hS), _, upd_same, by simp only [List.length_map, List.length_cons, List.length_nil]; omega, fun q2 hq2 => ?_⟩⟩
          have n2u : q2 ≠ u := wne q2 _ (wG.but (same_new hq1)) hq2
          have tG : Same G (upd (upd G q1 (.lst [.int 0, .int 0, vN p0, vN p1])) q2 (.lst (ss.map vN ++ [.int 0, .int 0, vN p0, vN p1]))) := (same_new hq1).trans (same_new hq2)
          refine ⟨u, .ref q2, _, rfl, wG.but tG, fun zz => n2u (by injection zz), .lst upd_same, by simp, by simp only [List.length_append, List.length_map, List.length_cons, List.length_nil]; omega, fun v G3 b3 w3 hv => ?_⟩
          obtain ⟨m, rfl, hm⟩ : ∃ m : Nat, v = vN m ∧ m ≤ 999 := by
            rcases List.mem_append.mp hv with hv | hv
            · obtain ⟨m, hm, rfl⟩ := List.mem_map.mp hv
              exact ⟨m, rfl, (rs m hm).2⟩
            · simp only [List.mem_cons, List.not_mem_nil, or_false] at hv
              rcases hv with rfl | rfl | rfl | rfl
              · exact ⟨0, rfl, by omega⟩
              · exact ⟨0, rfl, by omega⟩
              · exact ⟨p0, rfl, r0.2⟩
              · exact ⟨p1, rfl, r1.2⟩
          exact fin G3 ((bG.trans (But.same tG)).trans b3) w3 m hm _
    rintro σ H7 ⟨hb, wl, hN, hS, hP, ds, k0, w0, hL, okd, rfl⟩
    rw [show ((n : Int)).toNat = n from by omega] at okd
    refine hU _ _ ?_
    clear hU
    refine sq fun U hU => ?_
    walk_at "rd"
    refine De.for_s (d3P H u PL SP DN DL z n far ss p0 p1 ds k0 y w0) ⟨hb, wl, hS, hP, hL, [], none, hN, rfl, fun _ q => (nomatch q), rfl⟩ ?_ ?_
    · rintro i c σ H' hc ⟨hb, wl, hS, hP, hL, ns, x0, hN, en, rn, rfl⟩
      have il := (List.getElem?_eq_some_iff.mp hc).1
      walk_at "rd"
      refine ⟨_, hS, _, hS, by rw [List.length_map]; omega, fun q1 hq1 => ?_⟩
      have g1 := same_new (o := .lst (ss.map vN ++ ss.map vN)) hq1
      refine ⟨_, SqL.of (g1 _ _ hP), _, atI_nn (by decide) rfl, _, SqL.of (g1 _ _ hP), _, atI_nn (by decide) rfl, by omega, fun q2 hq2 => ⟨_, same_new hq2 _ _ upd_same, _, upd_same, by simp only [List.length_append, List.length_map, List.length_cons, List.length_nil]; omega, fun q3 hq3 => ?_⟩⟩
      have n3u : q3 ≠ u := wne q3 _ ((wl.but g1).but (same_new hq2)) hq3
      have tG := (g1.trans (same_new (o := .lst [.int 0, vN p0, vN p1]) hq2)).trans (same_new (o := .lst (ss.map vN ++ ss.map vN ++ [.int 0, vN p0, vN p1])) hq3)
      refine ⟨u, .ref q3, _, rfl, wl.but tG, fun zz => n3u (by injection zz), .lst upd_same, by simp only [List.length_append, List.length_map, List.length_cons, List.length_nil]; omega, by simp only [List.length_append, List.length_map, List.length_cons, List.length_nil]; omega, fun v G3 b3 w3 hv => ?_⟩
      obtain ⟨m, rfl, hm⟩ : ∃ m : Nat, v = vN m ∧ m ≤ 999 := by
        rcases List.mem_append.mp hv with hv | hv
        · rcases List.mem_append.mp hv with hv | hv
          · obtain ⟨m, hm, rfl⟩ := List.mem_map.mp hv
            exact ⟨m, rfl, (rs m hm).2⟩
          · obtain ⟨m, hm, rfl⟩ := List.mem_map.mp hv
            exact ⟨m, rfl, (rs m hm).2⟩
        · simp only [List.mem_cons, List.not_mem_nil, or_false] at hv
          rcases hv with rfl | rfl | rfl
          · exact ⟨0, rfl, by omega⟩
          · exact ⟨p0, rfl, r0.2⟩
          · exact ⟨p1, rfl, r1.2⟩
      have BG := (But.same tG).trans b3
      have hNG := BG _ _ nNu hN
      have lns : ns.length = i := by
        have := congrArg List.length en
        rw [List.length_map, List.length_take] at this
        omega
      have newc : ∀ x ∈ ns.map nk, x.1 ≠ (.inr (L1 c) : Key) := fun x hx zz => by
        obtain ⟨n, hn, rfl⟩ := List.mem_map.mp hx
        have zz : (Sum.inr (L1 n.1) : Key) = .inr (L1 c) := zz
        injection zz with zz
        have e := L1_inj zz
        have m1 : n.1 ∈ z.cps.toList.take i := by rw [← en]; exact List.mem_map.mpr ⟨n, hn, rfl⟩
        obtain ⟨j, hj⟩ := List.mem_iff_getElem?.mp m1
        rw [List.getElem?_take] at hj
        split at hj
        · rename_i lj
          have := (List.pairwise_iff_getElem.mp zp) j i (List.getElem?_eq_some_iff.mp hj).1 il lj
          rw [(List.getElem?_eq_some_iff.mp hj).2, (List.getElem?_eq_some_iff.mp hc).2, e] at this
          omega
        · cases hj
      refine ⟨_, .k (k := Sum.inr (L1 c)) hNG (by rw [List.length_map]; omega), fun b o nb e => ?_, wl_put w3 nNu, ?_, ?_, ?_, ns ++ [(c, m)], _, ?_, ?_, fun n hn => ?_, rfl⟩
      · rw [upd_ne (ne_of_none e zDN)]
        exact BG _ _ nb (hb _ _ nb e)
      · rw [upd_ne nSN]; exact BG _ _ nSu hS
      · rw [upd_ne nPN]; exact BG _ _ nPu hP
      · rw [upd_ne (Ne.symm nNL)]; exact BG _ _ nLu hL
      · rw [upd_same, putK_new newc, List.map_append]; rfl
      · rw [List.map_append, en, List.take_succ, hc]; rfl
      · rcases List.mem_append.mp hn with hn | hn
        · exact rn n hn
        · rw [List.mem_singleton.mp hn]; exact hm
    rintro σ H8 ⟨hb, wl, hS, hP, hL, ns, x0, hN, en, rn, rfl⟩
    rw [List.take_length] at en
    refine hU _ _ ?_
    clear hU
    walk_at "rd"
    have lns : ns.length = z.cps.toList.length := by rw [← en, List.length_map]
    refine ⟨by omega, fun a ha => ?_⟩
    refine k a DN DL ns ds _ (fun b o nb e => ?_) (wl.but (same_new ha)) ⟨upd_same, same_new ha _ _ hN, same_new ha _ _ hL, ⟨by omega, by omega, fun m hm => ?_, List.pairwise_map.mp (by rw [en]; exact zp)⟩, Nat.le_trans okd.1 (by omega), okd.2⟩ en (wne a H8 wl ha) nNu nLu
    · exact same_new ha _ _ (hb _ _ nb e)
    · have := zr m.1 (by rw [← en]; exact List.mem_map.mpr ⟨m, hm, rfl⟩)
      exact ⟨this.1, this.2, rn m hm⟩
end
end K40

set_option Elab.async false
set_option linter.all false
set_option maxRecDepth 100000
set_option maxHeartbeats 2000000
/-! try with several clauses 'except X as n', all of one name -/
namespace Ta
open PySem PySem.Spec PyProof.Rows L2
/-- the ends of a suite behind which slot i is gone -/
def gone (i : Nat) (D : Ends) : Ends := { nx := fun σ H => D.nx (σ.set i none) H, rt := D.rt, bk := fun σ H => D.bk (σ.set i none) H, ct := fun σ H => D.ct (σ.set i none) H }
/-- what the clauses wish of an exception of the body, one behind the other -/
def wAsM (K : PySem.W.Frag) (i : Nat) (Wout : WX) (D : Ends) : List (Value × (Addr → Value → Option Addr → TS)) → WX
  | [] => Wout
  | (c, ts) :: r => fun cls d σ H => ∃ b, PySem.W.exmOne K cls c = some b ∧ (b = true → ∀ a, H a = none → ts a cls d (gone i D) (σ.set i (some (.ref a))) H) ∧ (b = false → wAsM K i Wout D r cls d σ H)
inductive HdsAs (X : Cx) (n : Str) : List ExceptHandler → List (Value × (Addr → Value → Option Addr → TS)) → Prop
  | nil : HdsAs X n [] []
  | cons {x : Str} {c : Value} {ts : Addr → Value → Option Addr → TS} {b₀ : Stmt} {suite : List Stmt} {np pos' : Pos} {hds : List ExceptHandler} {l : List (Value × (Addr → Value → Option Addr → TS))} (hc : Names X x c)
      (hsu : ∀ (a : Addr) (oe : Obj) (cls : Value) (d : Option Addr) (pn : List (Addr × Obj)), Zc cls d oe → (∃ vs, oe.data = .fields vs) → PSs (X.suite a ((a, oe) :: pn)) (b₀ :: suite) (ts a cls d)) (r : HdsAs X n hds l) :
      HdsAs X n (.ExceptHandler (some (.Name x np)) (some n) (b₀ :: suite) pos' :: hds) ((c, ts) :: l)
section
variable {X : Cx} {n : Str} {i : Nat} {body : List Stmt} {h₀ : ExceptHandler} {hds : List ExceptHandler} {l : List (Value × (Addr → Value → Option Addr → TS))} {pos : Pos} {tb : WX → TS} {Wout : WX}
/-- one clause is one try, what it lets by is the next one's: the clauses told as a test of one -/
theorem ps_try_asM (hs : X.stack = X.env :: X.outer) (hf : X.env.frame = some X.env.locals) (hN : X.N.Nodup) (hi : X.N[i]? = some n) (hln : X.env.kindOf n = some .local) (tk : Takes X Wout)
    (hb : ∀ (W : WX) (pn : List (Addr × Obj)) (xe : Value → Shared → Prop), Takes (X.tr pn xe) W → PassesOwn (model X.prog X.w) X.A X.env xe → PSs (X.tr pn xe) body (tb W))
    (hh : HdsAs X n (h₀ :: hds) l) : PS X (.Try body (h₀ :: hds) [] [] pos) (fun D σ H => tb (wAsM X.K i Wout D l) D σ H) := by
  refine ⟨fun pins s σ H D I h => ?_⟩
  have ok := I.ok
  have hfr : X.A.frames = some (X.env :: X.outer) := by rw [ok.frames, hs]
  have hloc : Loc X.env.scope n := .inl hln
  refine wpAny_Try_except ?_
  refine wpAny_mono ((hb (wAsM X.K i Wout D l) (X.pn ++ pins) (fun e s₁ => wpAny (model X.prog X.w) X.A (noteFrame e X.env) (fun _ s₂ => wpAny (model X.prog X.w) X.A (setFlight e none) (fun _ s₃ =>
    wpAny (model X.prog X.w) X.A (handleBy e X.env (h₀ :: hds)) (SP X pins D) X.xe s₃) X.xe s₂) X.xe s₁) (fun u s' xx => ?_) PassesOwn.looking).run [] s σ H D (I.toTry _) h) (fun f s1 hsp => ?_) (fun e s1 he => he)
  · obtain ⟨a, B, sI, pins', σ', H', cls, d, rfl, J', nb, up, sky, na, os, ag, wish⟩ := xx
    have J : Inv X pins σ' H' sI := J'.ofTry ok
    have sky' : Sky B (X.env :: X.outer) a (Zc cls d) X.env.locals s'.heap := by rw [← hs]; exact sky
    show wpAny (model X.prog X.w) X.A (noteFrame (.ref a) X.env) _ _ _
    refine Sky.land Zc.steady hfr hf sky' fun h3 fl3 up3 => ?_
    have J3 : Inv X pins σ' H' { s' with heap := h3 } := J.landed nb fl3.1 (up.trans up3) os ag
    obtain ⟨oe3, vs3, he3, hz3, hd3⟩ := fl3.there
    have notFr : ∀ {h : Heap} {o : Obj} {vs : Array Value}, h.FunFrames B (X.env :: X.outer) → h.get? a = some o → o.data = .fields vs → a ∉ frs (X.env :: X.outer) := fun {h o vs} ff e dd hm => by
      obtain ⟨_, o', e', hnf⟩ := ff.mem hm
      rw [e] at e'; cases e'
      exact hnf _ dd
    have nfr := notFr fl3.2.2.1 he3 hd3
    have nL : a ≠ X.env.locals := fun z => nfr (List.mem_filterMap.mpr ⟨X.env, List.mem_cons_self, by rw [hf, z]⟩)
    have nF : a ∉ X.fs := fun hm => by
      obtain ⟨e, he, q⟩ := List.mem_filterMap.mp hm
      exact nfr (List.mem_filterMap.mpr ⟨e, List.mem_cons_of_mem _ he, q⟩)
    have S3 := J3.suite he3 hd3 na nL nF
    have go : ∀ {hds' : List ExceptHandler} {l' : List (Value × (Addr → Value → Option Addr → TS))}, HdsAs X n hds' l' → wAsM X.K i Wout D l' cls d σ' H' →
        wpAny (model X.prog X.w) X.A (handleBy (.ref a) X.env hds') (SP X pins D) X.xe { s' with heap := h3 } := by
      intro hds' l' hk
      induction hk with
      | nil =>
        intro wish
        refine wpAny_handleBy_nil ?_
        obtain ⟨k1, k2, k3, oe, vs, T, oT, ts', he, hz, hd, h1, hr⟩ := id fl3
        unfold PySem.passOn
        refine wpAny_bind (wpAny_field he hd h1 ?_)
        rw [if_neg (show ¬ ((Value.ref T == Value.none) = true) from by simp)]
        have fin : wpAny (model X.prog X.w) X.A (setFlight (.ref a) X.env.frame) (fun _ s4 => wpAny (model X.prog X.w) X.A (throw (.ref a) : Sem Flow) (SP X pins D) X.xe s4) X.xe { s' with heap := h3 } := by
          rw [hf]
          refine HandSPX.setFlight_upZ fl3 fun h4 hh4 up4 => wpAny_throw (tk _ _ ?_)
          exact ⟨a, B, sI, pins, σ', H', cls, d, rfl, J, nb, (up.trans up3).trans up4, .inr (.inr (by rw [hs]; exact hh4)), na, os, ag, wish⟩
        first
          | exact wpAny_bind (wpAny_pure (wpAny_bind fin))
          | exact wpAny_bind fin
      | @cons x c ts b₀ suite np pos' hds2 l2 hc hsu r ih =>
        intro wish
        obtain ⟨b, hb1, hyes, hno⟩ := wish
        refine wpAny_handleBy_cons (codeAny_handlers_test ?_) (by intro q; cases q)
        have LT : PySem.W.Looks (model X.prog X.w) h3 (typeOf (.ref a)) cls := fun A Q E s k q => wpAny_typeOf_ref (k _ _ he3) (by rw [hz3.1]; exact q)
        have LM := PySem.W.exm_one (M := model X.prog X.w) (J3.kIn) LT hb1
        have test : ∀ {Q : Value → Shared → Prop} {E : Value → Shared → Prop}, Q c { s' with heap := h3 } → wpAny (model X.prog X.w) (X.A.mark (some (.ref a))) (eval (.Name x np) X.env) Q E { s' with heap := h3 } := fun {Q E} q => by
          obtain ⟨hg, hdbg, hm | ⟨hm, hv, hnn⟩⟩ := hc
          · exact ld_glob (X := X.suite a ((a, oe3) :: (X.pn ++ pins))) S3 hg hm q hdbg
          · exact ld_blt (X := X.suite a ((a, oe3) :: (X.pn ++ pins))) S3 hg hm hv q hnn hdbg
        refine test (LM.here ?_)
        cases b with
        | true =>
          refine codeAny_handlers_suite_as ?_
          refine HandSPX.lands_againZ fl3 fun h4 fl4 up4 => ?_
          have J4 : Inv X pins σ' H' { s' with heap := h4 } := J.landed nb fl4.1 ((up.trans up3).trans up4) os ag
          obtain ⟨oe4, vs4, he4, hz4, hd4⟩ := fl4.there
          have S4 := J4.suite he4 hd4 na nL nF
          refine store_ok (X := X.suite a ((a, oe4) :: (X.pn ++ pins))) (v := .ref a) S4 hN hi hloc rfl (fun s5 S5 => ?_) (.inr hln)
          refine wpAny_mono ((hsu a oe4 cls d (X.pn ++ pins) hz4 ⟨_, hd4⟩).run [] s5 _ H' _ S5 (hyes rfl a na)) (fun f s6 hsp => ?_) (fun _ _ z => False.elim z)
          have end_ : ∀ {σ6 : L2.St} {H6 : Hp} {Q : Shared → Prop}, Inv (X.suite a ((a, oe4) :: (X.pn ++ pins))) [] σ6 H6 s6 → (∀ s7, Inv X pins (σ6.set i none) H6 s7 → Q s7) →
              wpAny (model X.prog X.w) X.A (do bindName X.env n .none; unbindBehindTheSuite X.env n pos') (fun _ s7 => Q s7) X.xe s6 := fun {σ6 H6 Q} S6 hq => gone_ok (S6.unsuite ok) hN hi hln hq
          cases f with
          | next =>
            obtain ⟨σ6, H6, S6, q6⟩ := hsp
            exact end_ S6 fun s7 J7 => ⟨_, _, J7, q6⟩
          | brk =>
            obtain ⟨σ6, H6, S6, q6⟩ := hsp
            exact end_ S6 fun s7 J7 => ⟨_, _, J7, q6⟩
          | cont =>
            obtain ⟨σ6, H6, S6, q6⟩ := hsp
            exact end_ S6 fun s7 J7 => ⟨_, _, J7, q6⟩
          | ret u =>
            obtain ⟨v6, σ6, H6, S6, r6, q6⟩ := hsp
            exact end_ S6 fun s7 J7 => ⟨_, _, _, J7, r6, q6⟩
        | false =>
          show wpAny _ X.A (handleBy (.ref a) X.env hds2) _ _ _
          exact ih (hno rfl)
    exact go hh wish
  · cases f with
    | next =>
      obtain ⟨σ', H', J', q⟩ := hsp
      exact wpAny_execs_nil ⟨σ', H', J'.ofTry ok, q⟩
    | brk =>
      obtain ⟨σ', H', J', q⟩ := hsp
      exact ⟨σ', H', J'.ofTry ok, q⟩
    | cont =>
      obtain ⟨σ', H', J', q⟩ := hsp
      exact ⟨σ', H', J'.ofTry ok, q⟩
    | ret u =>
      obtain ⟨v, σ', H', J', r, q⟩ := hsp
      exact ⟨v, σ', H', J'.ofTry ok, r, q⟩
theorem wAsM_nil {K : PySem.W.Frag} {D : Ends} {cls : Value} {d : Option Addr} {σ : L2.St} {H : Hp} : wAsM K i Wout D [] cls d σ H = Wout cls d σ H := rfl
theorem wAsM_cons {K : PySem.W.Frag} {D : Ends} {c cls : Value} {ts : Addr → Value → Option Addr → TS} {r : List (Value × (Addr → Value → Option Addr → TS))} {d : Option Addr} {σ : L2.St} {H : Hp} : wAsM K i Wout D ((c, ts) :: r) cls d σ H =
    ∃ b, PySem.W.exmOne K cls c = some b ∧ (b = true → ∀ a, H a = none → ts a cls d (gone i D) (σ.set i (some (.ref a))) H) ∧ (b = false → wAsM K i Wout D r cls d σ H) := rfl
end
end Ta

set_option Elab.async false
set_option linter.all false
set_option maxRecDepth 100000
set_option maxHeartbeats 4000000
namespace K40
open PySem PySem.Spec PyProof.Rows L2 Rd Dt Dq Pk Ln En Sx Sy So Sr Lk TL
open K40S (StA StB StM LSt HpA HpB spMade spTxt map_at kit_self sorted_names keys_n keys_c get_n get_d DcOk asc_nodup nuP nuP_step vN)
local macro_rules | `(tactic| walk_at "rd") => `(tactic| try simp only [↓De.tFor_str, ↓Lk.tLockE_, ↓Lk.tLock_, ↓Lk.tLc_keys, ↓Lk.tFor_keys, ↓Sy.tTupP_, ↓Sy.rTupP_, ↓Sy.rCatP_, ↓Sy.rSlP_, ↓Sy.rDictT_, ↓Sy.tDGet_, ↓Sy.tDGet1_, ↓Sy.tDIn_, ↓Sy.tDNotIn_, ↓Sy.tMeth_, ↓Sy.tMethKw_, ↓Sy.rSortedS_, ↓Sx.rIsT_, ↓En.tFor_enumT, ↓Sy.tFor_enumL, ↓Rv.tMakeKw_, ↓Prp.tProp_, ↓Lo.tBits_, ↓Lo.tJs_n, ↓Lo.tJs_c, ↓Lo.tFmt_, ↓Lo.gFld_, ↓Lo.tMake_, ↓Lo.rOwn_, ↓Rg.tFor_range3, ↓Rg.tLc_range3, ↓Rg.tLstC_, ↓Rg.tLc_rngV, ↓Le.rNeLE_, ↓Le.rEqLE_, ↓Ls.tLc_str, ↓Ls.sDPut_, ↓Rl.rReprL_, ↓Rl.tCallKS_, ↓Ob.tFld_, ↓Ob.sFld_, ↓tVar_, ↓tC_, ↓tM1, ↓tDNewK_, ↓tOp_, ↓tUn_, ↓rI_, ↓rI0_, ↓rU_, ↓eq_ii, ↓ne_ii, ↓eq_ss, ↓ne_ss, ↓eq_bb, ↓ne_bb, ↓tAndV_, ↓tOrV_, ↓tNotV_, ↓tIf_, ↓tTest_, ↓tB_, ↓tAnd_, ↓tOr_, ↓tNot_, ↓tChain_, ↓tNil_, ↓tCons_, ↓tTup_, ↓tLst_, ↓tCB_, ↓tCall_, ↓tSeq_, ↓tNext_, ↓tRet_, ↓tRetN_, ↓tDrop_, ↓tBreak_, ↓tNever_, ↓tIfS_, ↓tAsg_, ↓gName_, ↓gTup_, ↓gCons_, ↓gNil_, ↓gSub_, ↓tPar_, ↓tPar3_, ↓tSl_, ↓tNoPart_, ↓tPart_, ↓tBM_, ↓tFor_range1, ↓tFor_range2, ↓tFor_list, ↓tFor_tup, L2.start, List.headD_cons, List.headD_nil, List.tail_cons, List.map_cons, List.map_nil, List.length_cons, List.length_nil, List.replicate, List.append_nil, List.nil_append, List.cons_append, List.getElem?_cons_zero, List.getElem?_cons_succ, List.set_cons_zero, List.set_cons_succ, Option.some.injEq, V.int.injEq, V.bl.injEq, V.str.injEq, V.ref.injEq, exists_eq_left, exists_eq_left', exists_eq_right, exists_eq, exists_and_left, and_true, true_and, decide_eq_true_eq, Nat.reduceAdd, Nat.reduceSub, Nat.add_zero, Nat.zero_add, List.cons.injEq, Bool.not_eq_true', decide_eq_false_iff_not, eq_self, reduceCtorEq, Bool.false_eq_true, if_true, if_false, ite_true, ite_false, and_self, ↓tLc_range1, ↓tLc_range2, ↓tLc_list, ↓tLc_tup, ↓tYes_, wipe0, wipe1, ↓tCallS_, ↓rIxL_, ↓rIxT_, ↓rSlL_, ↓rCat_, ↓rSetL_, ↓rRep_, ↓rGcd_, ↓tCallK_, ↓gUnl_, ↓tRaise_, decide_true, decide_false, not_true_eq_false, not_false_eq_true, false_and, or_false, false_or, and_false, and_assoc, exists_const, forall_const, forall_eq'])
section
variable {P : Program} {w : World} {K : PySem.W.Frag} {mg : Str → Option Value} {base : Heap}
/-! ### what is told -/
structure Exm (K : PySem.W.Frag) (CT CN CU CA : Addr) : Prop where
  tt : PySem.W.exmOne K (.ref CT) (.ref CT) = some true
  nt : PySem.W.exmOne K (.ref CN) (.ref CT) = some false
  nn : PySem.W.exmOne K (.ref CN) (.ref CN) = some true
  ut : PySem.W.exmOne K (.ref CU) (.ref CT) = some false
  un : PySem.W.exmOne K (.ref CU) (.ref CN) = some false
  uu : PySem.W.exmOne K (.ref CU) (.ref CU) = some true
  ua : PySem.W.kitOne K (.ref CU) (.ref CA) = some true
def spTold (K : PySem.W.Frag) (C : Addr) : Sp := fun vs H Q _ => ∃ (x y : V) (b : Bool) (d : PyData), vs = [x, y, .bl b] ∧ Dq K H x d ∧ (testOfD d = none → ∀ D H', Same H H' → H' D = some (.lst [.str "test", x]) → Q (.ref D) H') ∧ (∀ t, testOfD d = some t →
  (∃ (r : Addr) (ns cs : List (Nat × Nat)), y = .ref r ∧ StA K C H r ns cs ∧ ∀ D H', Same H H' → H' D = some (.lst (dueV ns t)) → Q (.ref D) H') ∨ (∃ e, Dq K H y e ∧ ∀ D H', Same H H' → H' D = some (.lst [.str "store", y]) → Q (.ref D) H'))
theorem sc_told : FnScope ["_law_first", "_law_second", "_law_is_named", "e"] ["_law_first", "_law_second", "_law_is_named"] (defScope (top 60)) := ⟨rfl, rfl, rfl, by decide +kernel, rfl, by decide +kernel, by decide +kernel⟩
theorem ok_told {C CT CN CU CA f1I f2I f3I : Addr} {d1I d2I d3I : FuncData} (T : Th mg) (R1 : ErI K mg CT f1I d1I) (R2 : ErS K mg CN f2I d2I) (R3 : ErU K mg CU f3I d3I) (XF1 : XfC K CT) (XF2 : XfC K CN) (XF3 : XfC K CU) (XE : ExcC K CU) (EM : Exm K CT CN CU CA) (gArr : mg "ArrowError" = some (.ref CA))
    {f : Addr} {fd : FuncData} (F : FD K "_law_told" (top 60) f fd) {f1 : Addr} {fd1 : FuncData} (C1 : Cal P w K mg base (L2.CX P w) 7 "holds" ["test", "store"] (spHolds K C CT CN CU) f1 fd1) (wholds : KW K fd1 ["test", "store"]) : FnOk P w K mg base CX0 8 f fd ["_law_first", "_law_second", "_law_is_named"] (spTold K C) := by
  obtain ⟨gholds, kholds, bholds, Fholds⟩ := C1
  refine F.ok sc_told (fun vs H Q E h => ?_) (fun cdv A outer s' H vs Q E hr h => ?_)
  · obtain ⟨_, _, _, _, rfl, _⟩ := h
    rfl
  · obtain ⟨x, y, b, d, rfl, hx, k1, k2⟩ := h
    have nd := sc_told.nd
    refine ⟨_, (pss_one (Ta.ps_try_asM (i := 3) rfl rfl nd rfl rfl takes0 (fun W pn xe tk _ => (pss_one (ps_ret (pe_lst (pa_cons pe_str (pa_cons (pe_ifExp (pt_val (pv 2)) (Rl.pe_callKwS Fholds (hr.mono (by omega)) rfl gholds kholds wholds (fun σ => passAt tk σ) (pk_cons (pv 0) (pk_cons (pv 1) pk_nil))) (pe_callS Fholds (hr.mono (by omega)) rfl gholds kholds bholds (fun σ => passAt tk σ) (pa_cons (pv 0) (pa_cons (pv 1) pa_nil)))) pa_nil))))))
        (.cons ⟨rfl, by decide, .inl R1.gC⟩ (fun a oe cls d pn hz hf => (pss_one (ps_ret (pe_lst (pa_cons pe_str (pa_cons (pe_xf XF1 R1.noN hz hf (pv 3)) pa_nil))))))
        (.cons ⟨rfl, by decide, .inl R2.gC⟩ (fun a oe cls d pn hz hf => (pss_one (ps_ret (pe_lst (pa_cons pe_str (pa_cons (pe_xf XF2 R2.noN hz hf (pv 3)) pa_nil))))))
        (.cons ⟨rfl, by decide, .inl R3.gC⟩ (fun a oe cls d pn hz hf => (pss_one (ps_ret (pe_lst (pa_cons pe_str (pa_cons (pe_xf XF3 R3.noN hz hf (pv 3)) (pa_cons (pe_callB (Exx.call_isX XE hz hf) (by rfl) T.b_isinstance (by decide +kernel) (pa_cons (pv 3) (pa_cons (pe_glob (v := .ref CA) rfl gArr rfl) pa_nil))) pa_nil)))))))
        .nil))))), ?_⟩
    walk_at "rd"
    have lk : ∀ x : V, List.lookup ("given" : Str) [(("given" : Str), x)] = some x := fun x => by simp [List.lookup]
    rw [ite_self]
    refine ⟨x, y, d, rfl, hx, fun e dd H2 s2 hd => ⟨true, EM.tt, fun _ a' ha' => ?_, (fun q => nomatch q)⟩, fun t et => ?_⟩
    · walk_at "rd"
      have s3 : Same H (upd H2 dd (.xd [("given", x)])) := s2.trans (same_new hd)
      exact ⟨_, rfl, rfl, rfl, dd, [("given", x)], x, rfl, upd_same, lk x, by decide, fun D hD => k1 e D _ (s3.trans (same_new hD)) upd_same⟩
    rcases k2 t et with ⟨r, ns, cs, rfl, hst, q⟩ | ⟨e, he, q⟩
    · refine .inl ⟨r, ns, cs, rfl, hst, fun s em dd H2 s2 hd => ⟨false, EM.ut, (fun z => nomatch z), fun _ => ⟨false, EM.un, (fun z => nomatch z), fun _ => ⟨true, EM.uu, fun _ a' ha' => ?_, (fun z => nomatch z)⟩⟩⟩, fun em H2 s2 => ⟨by decide, fun D hD => q D _ (s2.trans (same_new hD)) ?_⟩⟩
      · walk_at "rd"
        have s3 : Same H (upd H2 dd (.xd [("given", .str s)])) := s2.trans (same_new hd)
        refine ⟨_, rfl, rfl, rfl, dd, [("given", .str s)], .str s, rfl, upd_same, lk _, .ref CA, .ref CA, true, dd, _, rfl, rfl, (fun u hu => hu), rfl, upd_same, EM.ua, by decide, fun D hD => q D _ (s3.trans (same_new hD)) ?_⟩
        rw [upd_same]
        unfold dueV
        rw [em]
      · rw [upd_same]
        unfold dueV
        rw [em]
    · refine .inr ⟨e, he, fun dd H2 s2 hd => ⟨false, EM.nt, (fun z => nomatch z), fun _ => ⟨true, EM.nn, fun _ a' ha' => ?_, (fun z => nomatch z)⟩⟩⟩
      walk_at "rd"
      have s3 : Same H (upd H2 dd (.xd [("given", y)])) := s2.trans (same_new hd)
      exact ⟨_, rfl, rfl, rfl, dd, [("given", y)], y, rfl, upd_same, lk y, by decide, fun D hD => q D _ (s3.trans (same_new hD)) upd_same⟩
end
end K40

set_option Elab.async false
set_option linter.all false
set_option maxRecDepth 100000
set_option maxHeartbeats 2000000
/-! a text so many times -/
namespace Mu
open PySem PySem.Spec PyProof.Rows L2 Rd
def rMulS : R2 := fun x y H Q => ∃ (s : Str) (n : Int), x = .str s ∧ y = .int n ∧ 0 ≤ n ∧ n ≤ 1000 ∧ s.length ≤ 10000 ∧ Q (.str (Txt.mul s n)) H
theorem rMulS_ {x y : V} {H : Hp} {Q : VK} : rMulS x y H Q = ∃ (s : Str) (n : Int), x = .str s ∧ y = .int n ∧ 0 ≤ n ∧ n ≤ 1000 ∧ s.length ≤ 10000 ∧ Q (.str (Txt.mul s n)) H := rfl
theorem op_mulS {X : Cx} : OpR X (binaryOp .Mult) rMulS := by
  intro pins s σ H x y v u Q I rx ry h
  obtain ⟨z, n, rfl, rfl, h0, h1, hz, q⟩ := h
  obtain ⟨t, rfl⟩ := rx
  obtain ⟨t2, rfl⟩ := ry
  have hb : z.length * n.toNat ≤ 10000000 := by
    have := Nat.mul_le_mul hz (show n.toNat ≤ 1000 by omega)
    omega
  refine SB.mul ⟨?_, fun hn _ => ?_, fun hn _ => ?_⟩ fun t' k => ⟨.str (Txt.mul z n), H, I.tok k, ⟨t', rfl⟩, q⟩
  · rw [decide_eq_false (by omega), decide_eq_false (by omega)]; rfl
  · intro hh
    have h2 : (1 : Int) ≤ n := by omega
    have h3 : (10000 : Int) ≤ (2 ^ 63 - 1) / n := by
      rw [Int.le_ediv_iff_mul_le (by omega)]
      omega
    omega
  · show decide (z.length * n.toNat > sizeLine) = false
    exact decide_eq_false (by rw [sizeLine_eq] ; omega)
theorem foldl_to (a : Array Nat) : ∀ (m : Nat) (acc : Array Nat), ((List.replicate m a).foldl (· ++ ·) acc).toList = acc.toList ++ (List.replicate m a.toList).flatten
  | 0, acc => by simp
  | m + 1, acc => by
    rw [List.replicate_succ, List.foldl_cons, foldl_to a m, List.replicate_succ, List.flatten_cons, Array.toList_append, List.append_assoc]
theorem mul_len {s : Str} {n : Int} {m k : Nat} (h : s.length ≤ m) (hn : n.toNat ≤ k) : (Txt.mul s n).length ≤ k * m := by
  unfold Txt.mul
  split
  · show 0 ≤ _
    exact Nat.zero_le _
  · split
    · rename_i h1 _
      have : 1 ≤ k := by omega
      exact Nat.le_trans h (Nat.le_mul_of_pos_left m this)
    · have e := foldl_to s.cps n.toNat #[]
      have l : (((List.replicate n.toNat s.cps).foldl (· ++ ·) #[]).toList).length = n.toNat * s.length := by
        rw [e, List.length_append, List.length_flatten, List.map_replicate, List.sum_replicate_nat]
        show 0 + n.toNat * s.cps.toList.length = _
        rw [Nat.zero_add]; rfl
      show ((List.replicate n.toNat s.cps).foldl (· ++ ·) #[]).size ≤ _
      rw [← Array.length_toList, l]
      exact Nat.mul_le_mul hn h
theorem mul_mem {s : Str} {n : Int} {c : Nat} (h : c ∈ (Txt.mul s n).cps.toList) : c ∈ s.cps.toList := by
  unfold Txt.mul at h
  split at h
  · cases (show c ∈ ([] : List Nat) from h)
  · split at h
    · exact h
    · have e := foldl_to s.cps n.toNat #[]
      have h' : c ∈ ((List.replicate n.toNat s.cps).foldl (· ++ ·) #[]).toList := h
      rw [e] at h'
      rcases List.mem_append.mp h' with z | z
      · cases z
      · obtain ⟨l, h1, h2⟩ := List.mem_flatten.mp z
        rw [(List.mem_replicate.mp h1).2] at h2
        exact h2
end Mu

set_option Elab.async false
set_option linter.all false
set_option maxRecDepth 100000
set_option maxHeartbeats 4000000
namespace K40
open PySem PySem.Spec PyProof.Rows L2 Rd Dt Dq Pk Ln En Sx Sy So Sr Lk TL
open K40S (StA StB StM LSt HpA HpB spMade spTxt map_at kit_self sorted_names keys_n keys_c get_n get_d DcOk asc_nodup nuP nuP_step vN)
local macro_rules | `(tactic| walk_at "rd") => `(tactic| try simp only [↓De.tFor_str, ↓Lk.tLockE_, ↓Lk.tLock_, ↓Lk.tLc_keys, ↓Lk.tFor_keys, ↓Sy.tTupP_, ↓Sy.rTupP_, ↓Sy.rCatP_, ↓Sy.rSlP_, ↓Sy.rDictT_, ↓Sy.tDGet_, ↓Sy.tDGet1_, ↓Sy.tDIn_, ↓Sy.tDNotIn_, ↓Sy.tMeth_, ↓Sy.tMethKw_, ↓Sy.rSortedS_, ↓Sx.rIsT_, ↓En.tFor_enumT, ↓Sy.tFor_enumL, ↓Rv.tMakeKw_, ↓Prp.tProp_, ↓Lo.tBits_, ↓Lo.tJs_n, ↓Lo.tJs_c, ↓Lo.tFmt_, ↓Lo.gFld_, ↓Lo.tMake_, ↓Lo.rOwn_, ↓Rg.tFor_range3, ↓Rg.tLc_range3, ↓Rg.tLstC_, ↓Rg.tLc_rngV, ↓Le.rNeLE_, ↓Le.rEqLE_, ↓Ls.tLc_str, ↓Ls.sDPut_, ↓Rl.rReprL_, ↓Rl.tCallKS_, ↓Ob.tFld_, ↓Ob.sFld_, ↓tVar_, ↓tC_, ↓tM1, ↓tDNewK_, ↓tOp_, ↓tUn_, ↓rI_, ↓rI0_, ↓rU_, ↓eq_ii, ↓ne_ii, ↓eq_ss, ↓ne_ss, ↓eq_bb, ↓ne_bb, ↓tAndV_, ↓tOrV_, ↓tNotV_, ↓tIf_, ↓tTest_, ↓tB_, ↓tAnd_, ↓tOr_, ↓tNot_, ↓tChain_, ↓tNil_, ↓tCons_, ↓tTup_, ↓tLst_, ↓tCB_, ↓tCall_, ↓tSeq_, ↓tNext_, ↓tRet_, ↓tRetN_, ↓tDrop_, ↓tBreak_, ↓tNever_, ↓tIfS_, ↓tAsg_, ↓gName_, ↓gTup_, ↓gCons_, ↓gNil_, ↓gSub_, ↓tPar_, ↓tPar3_, ↓tSl_, ↓tNoPart_, ↓tPart_, ↓tBM_, ↓tFor_range1, ↓tFor_range2, ↓tFor_list, ↓tFor_tup, L2.start, List.headD_cons, List.headD_nil, List.tail_cons, List.map_cons, List.map_nil, List.length_cons, List.length_nil, List.replicate, List.append_nil, List.nil_append, List.cons_append, List.getElem?_cons_zero, List.getElem?_cons_succ, List.set_cons_zero, List.set_cons_succ, Option.some.injEq, V.int.injEq, V.bl.injEq, V.str.injEq, V.ref.injEq, exists_eq_left, exists_eq_left', exists_eq_right, exists_eq, exists_and_left, and_true, true_and, decide_eq_true_eq, Nat.reduceAdd, Nat.reduceSub, Nat.add_zero, Nat.zero_add, List.cons.injEq, Bool.not_eq_true', decide_eq_false_iff_not, eq_self, reduceCtorEq, Bool.false_eq_true, if_true, if_false, ite_true, ite_false, and_self, ↓tLc_range1, ↓tLc_range2, ↓tLc_list, ↓tLc_tup, ↓tYes_, wipe0, wipe1, ↓tCallS_, ↓rIxL_, ↓rIxT_, ↓rSlL_, ↓rCat_, ↓rSetL_, ↓rRep_, ↓rGcd_, ↓tCallK_, ↓gUnl_, ↓tRaise_, decide_true, decide_false, not_true_eq_false, not_false_eq_true, false_and, or_false, false_or, and_false, and_assoc, exists_const, forall_const, forall_eq'])
section
variable {P : Program} {w : World} {K : PySem.W.Frag} {mg : Str → Option Value} {base : Heap}
def spG : Sp := fun vs H Q _ => ∃ (u : Addr), vs = [.ref u] ∧ WellAt H u ∧ ∀ H', But u H H' → WellAt H' u → Q (.bl true) H'
theorem LSt.but {m : Nat} {H H' : Hp} {a dn dc u : Addr} {ns ds : List (Nat × Nat)} (h : LSt m H a dn dc ns ds) (b : But u H H') (n1 : a ≠ u) (n2 : dn ≠ u) (n3 : dc ≠ u) : LSt m H' a dn dc ns ds := ⟨b _ _ n1 h.1, b _ _ n2 h.2.1, b _ _ n3 h.2.2.1, h.2.2.2⟩
theorem LSt.up {m : Nat} {H H' : Hp} {a dn dc : Addr} {ns ds : List (Nat × Nat)} (h : LSt m H a dn dc ns ds) (b : Same H H') : LSt m H' a dn dc ns ds := ⟨b _ _ h.1, b _ _ h.2.1, b _ _ h.2.2.1, h.2.2.2⟩
theorem lst_no2 {l : List V} (xs : List V) : HO.lst l ≠ .tup xs ∧ ∀ ob, HO.lst l ≠ .frz ob (.tup xs) := ⟨fun z => (by cases z), fun _ z => (by cases z)⟩
theorem StA.but2 {C : Addr} {H H' : Hp} {u : Addr} (s : But u H H') (w : WellAt H u) {r : Addr} {ns cs : List (Nat × Nat)} (h : StA K C H r ns cs) : StA K C H' r ns cs := by
  obtain ⟨dx, an, ac, dp, da, h1, h2, h3, h4, h5, h6, h7⟩ := h
  obtain ⟨q1, q2, q3, e⟩ := w
  exact ⟨dx, an, ac, dp, da, s _ _ (ne_of h1 e (fun z => by cases z)) h1, h2.but s e lst_no2, h3.but s e lst_no2, s _ _ (ne_of h4 e (fun z => by cases z)) h4, s _ _ (ne_of h5 e (fun z => by cases z)) h5, h6, h7⟩
def dueD (ns : List (Nat × Nat)) (d : PyData) : List PyData := match miss ns (letL (testL d)) with
  | some s => [.str "name", .str s, .bool true]
  | none => [.str "told", .bool (tsB ns d)]
theorem two_ok {H : Hp} {x : V} {d : PyData} {s : Str} (hs : smS s = true) (ls : s.length ≤ 5) (hx : Dq K H x d) (hd : d.depth ≤ 48) (hw : wt d ≤ 900000) : DqAll K H [.str s, x] [.str s, d] ∧ PyData.depthAll [.str s, d] ≤ 49 ∧ wtAll [.str s, d] ≤ 1000000 := by
  refine ⟨.cons (.str _ hs) (.cons hx .nil), ?_, ?_⟩
  · simp only [PyData.depthAll, PyData.depth]
    omega
  · simp only [wtAll, wt]
    omega
theorem due_ok {H : Hp} (ns : List (Nat × Nat)) (d : PyData) : DqAll K H (dueV ns d) (dueD ns d) ∧ PyData.depthAll (dueD ns d) ≤ 49 ∧ wtAll (dueD ns d) ≤ 1000000 := by
  unfold dueV dueD
  cases e : miss ns (letL (testL d)) with
  | none =>
    refine ⟨.cons (.str _ (by decide +kernel)) (.cons (.bl _) .nil), ?_, ?_⟩
    · simp only [PyData.depthAll, PyData.depth]
      omega
    · have : ("told" : Str).length = 4 := by decide
      simp only [wtAll, wt]
      omega
  | some s =>
    have hm : s ∈ letL (testL d) := List.mem_of_find?_eq_some e
    have hl := letL_letter hm
    obtain ⟨c, rfl⟩ := let_L1 hl
    refine ⟨.cons (.str _ (by decide +kernel)) (.cons (.str _ (sm_letter hl)) (.cons (.bl _) .nil)), ?_, ?_⟩
    · simp only [PyData.depthAll, PyData.depth]
      omega
    · have : ("name" : Str).length = 4 := by decide
      have : (L1 c).length = 1 := rfl
      simp only [wtAll, wt]
      omega
theorem tk_bt {s : Str} {n : Nat} (h : Tok s n) : Bt s n := ⟨h.len, fun c hc => by
  have := h.ok
  unfold PyData.strOk at this
  rw [← Array.all_toList, List.all_eq_true] at this
  exact of_decide_eq_true (this c hc)⟩
def riP (K : PySem.W.Frag) (C : Addr) (H : Hp) (u a dn dc r : Addr) (ns ds : List (Nat × Nat)) (z : Str) (o : V) (od : PyData) (i : Nat) : L2.St → Hp → Prop := fun σ H' => But u H H' ∧ WellAt H' u ∧ LSt 3 H' a dn dc ns ds ∧ StA K C H' r ns (srt ds) ∧ Dq K H' o od ∧
  ∃ v5 v6 v7 v8 v9 v10 : Option V, (0 < i → ∃ d, v7 = some (.str (testText d)) ∧ isTest d = true) ∧ σ = [some (.ref u), some (.str z), some (.ref a), some (.ref r), some o, v5, v6, v7, v8, v9, v10]
theorem sc_right : FnScope ["_law_well_here", "_law_signs", "_law_mine", "_law_ours", "_law_odd_here", "_law_turn", "_law_quiz_here", "_law_said", "_law_bent_here", "_law_again", "_law_due_here"] ["_law_well_here"] (defScope (top 63)) := ⟨rfl, rfl, rfl, by decide +kernel, rfl, by decide +kernel, by decide +kernel⟩
theorem ok_right {C : Addr} {f : Addr} {fd : FuncData} (T : Th mg) (hS : SysD K) (W : StB K C) {p3 g3 : Addr} {fp3 : FuncData} (PT : Prp.PrC P w K mg base 1 C "text" (K40S.spText K C) p3 g3 fp3) (F : FD K "_law_right" (top 63) f fd)
    {f1 f2 f3 f4 f5 f6 f7 f8 f9 f10 : Addr} {fd1 fd2 fd3 fd4 fd5 fd6 fd7 fd8 fd9 fd10 : FuncData}
    (C1 : Cal P w K mg base CX0 2 "_law_pick" ["_law_well_here", "_law_some"] spPick f1 fd1) (C2 : Cal P w K mg base CX0 3 "_law_drawn" ["_law_well_here", "_law_signs", "_law_limit"] spDrawn f2 fd2) (C3 : Cal P w K mg base CX0 7 "_law_store" ["_law_mine"] (spMade K C) f3 fd3) (C4 : Cal P w K mg base CX0 3 "_law_odd" ["_law_well_here"] (spOdd K) f4 fd4)
    (C5 : Cal P w K mg base CX0 3 "_law_quiz" ["_law_well_here", "_law_signs"] (spQuiz K) f5 fd5) (C6 : Cal P w K mg base CX0 1 "_law_quiz_said" ["_law_quiz_here"] (spText isTest testText K) f6 fd6) (C7 : Cal P w K mg base CX0 8 "_law_told" ["_law_first", "_law_second", "_law_is_named"] (spTold K C) f7 fd7) (C8 : Cal P w K mg base CX0 2 "_law_due" ["_law_mine", "_law_quiz_here"] (spDue K) f8 fd8)
    (C9 : Cal P w K mg base CX0 3 "_law_bent" ["_law_well_here", "_law_said"] (spBent K) f9 fd9) (C10 : Cal P w K mg base CX0 4 "_law_quiz_read" ["_law_said"] (spQR K) f10 fd10) {f11 : Addr} {fd11 : FuncData} (C11 : Cal P w K mg base CX0 1 "_law_shown" ["_law_mine"] spTxt f11 fd11) : Ga.FnG P w K mg base CX0 10 f fd ["_law_well_here"] spG := by
  obtain ⟨g_law_pick, k_law_pick, b_law_pick, F_law_pick⟩ := C1
  obtain ⟨g_law_drawn, k_law_drawn, b_law_drawn, F_law_drawn⟩ := C2
  obtain ⟨g_law_store, k_law_store, b_law_store, F_law_store⟩ := C3
  obtain ⟨g_law_odd, k_law_odd, b_law_odd, F_law_odd⟩ := C4
  obtain ⟨g_law_quiz, k_law_quiz, b_law_quiz, F_law_quiz⟩ := C5
  obtain ⟨g_law_quiz_said, k_law_quiz_said, b_law_quiz_said, F_law_quiz_said⟩ := C6
  obtain ⟨g_law_told, k_law_told, b_law_told, F_law_told⟩ := C7
  obtain ⟨g_law_due, k_law_due, b_law_due, F_law_due⟩ := C8
  obtain ⟨g_law_bent, k_law_bent, b_law_bent, F_law_bent⟩ := C9
  obtain ⟨g_law_quiz_read, k_law_quiz_read, b_law_quiz_read, F_law_quiz_read⟩ := C10
  obtain ⟨g_law_shown, k_law_shown, b_law_shown, F_law_shown⟩ := C11
  refine Ga.FnG.mk' F sc_right (fun vs H Q E h => ?_) (fun cdv A outer s' H vs Q E hG hr h => ?_)
  · obtain ⟨_, rfl, _⟩ := h
    rfl
  · obtain ⟨u, rfl, hw, k⟩ := h
    have nd := sc_right.nd
    have zl : (1000000 : Nat) ≤ sizeLine := line_big
    refine ⟨_, (pss_cons (ps_set (i := 1) nd rfl (Or.inl rfl) (pe_call F_law_pick (hr.mono (by omega)) rfl g_law_pick k_law_pick b_law_pick .nil pass0 (pa_cons (pv 0) (pa_cons (pe_tup (pa_cons pe_str (pa_cons pe_str (pa_cons pe_str (pa_cons pe_str pa_nil))))) pa_nil))))
        (pss_cons (ps_set (i := 2) nd rfl (Or.inl rfl) (pe_call F_law_drawn (hr.mono (by omega)) rfl g_law_drawn k_law_drawn b_law_drawn .nil pass0 (pa_cons (pv 0) (pa_cons (pv 1) (pa_cons pe_int pa_nil)))))
        (pss_cons (ps_par rfl nd (i := 3) (j := 4) rfl rfl (by decide) rfl rfl (pa_cons (pe_call F_law_store (hr.mono (by omega)) rfl g_law_store k_law_store b_law_store .nil pass0 (pa_cons (pv 2) pa_nil)) (pa_cons (pe_call F_law_odd (hr.mono (by omega)) rfl g_law_odd k_law_odd b_law_odd .nil pass0 (pa_cons (pv 0) pa_nil)) pa_nil)) rfl)
        (pss_cons (ps_for (passes_of rfl) rfl (pi_range1 rfl T.b_range (pa_cons pe_int pa_nil)) (pg_name (i := 5) nd rfl (Or.inl rfl)) (pss_cons (ps_set (i := 6) nd rfl (Or.inl rfl) (pe_call F_law_quiz (hr.mono (by omega)) rfl g_law_quiz k_law_quiz b_law_quiz .nil pass0 (pa_cons (pv 0) (pa_cons (pe_op op_add_str (pe_op Mu.op_mulS (pv 1) pe_int) (pe_ifExp (pt_cmpR op_gt (pv 5) pe_int (nomark _)) pe_str (pe_slice sl_str (pv 1) po_none (po_some pe_int)))) pa_nil))))
        (pss_cons (ps_set (i := 7) nd rfl (Or.inl rfl) (pe_call F_law_quiz_said (hr.mono (by omega)) rfl g_law_quiz_said k_law_quiz_said b_law_quiz_said .nil pass0 (pa_cons (pv 6) pa_nil)))
        (pss_cons (ps_if (pt_cmpR op_ne (pe_callB (Rl.call_reprL (K := K) rfl hS hG hr.units) (by rfl) T.b_repr (by decide +kernel) (pa_cons (pe_call F_law_told (hr.mono (by omega)) rfl g_law_told k_law_told b_law_told .nil pass0 (pa_cons (pv 7) (pa_cons (pv 3) (pa_cons (pe_cmpR op_eq (pv 5) pe_int (nomark _)) pa_nil)))) pa_nil)) (pe_callB (Rl.call_reprL (K := K) rfl hS hG hr.units) (by rfl) T.b_repr (by decide +kernel) (pa_cons (pe_call F_law_due (hr.mono (by omega)) rfl g_law_due k_law_due b_law_due .nil pass0 (pa_cons (pv 2) (pa_cons (pv 6) pa_nil))) pa_nil)) (nomark _)) (pss_one (ps_ret pe_bl)) pss_nil)
        (pss_cons (ps_set (i := 8) nd rfl (Or.inl rfl) (pe_call F_law_bent (hr.mono (by omega)) rfl g_law_bent k_law_bent b_law_bent .nil pass0 (pa_cons (pv 0) (pa_cons (pv 7) pa_nil))))
        (pss_cons (ps_set (i := 9) nd rfl (Or.inl rfl) (pe_call F_law_quiz_read (hr.mono (by omega)) rfl g_law_quiz_read k_law_quiz_read b_law_quiz_read .nil pass0 (pa_cons (pv 8) pa_nil)))
        (pss_cons (ps_set (i := 10) nd rfl (Or.inl rfl) (pe_ifExp (pt_cmpR op_isN (pv 9) pe_non (nomark _)) (pe_lst (pa_cons pe_str (pa_cons (pv 8) pa_nil))) (pe_call F_law_due (hr.mono (by omega)) rfl g_law_due k_law_due b_law_due .nil pass0 (pa_cons (pv 2) (pa_cons (pv 9) pa_nil)))))
        (pss_one (ps_if (pt_cmpR op_ne (pe_callB (Rl.call_reprL (K := K) rfl hS hG hr.units) (by rfl) T.b_repr (by decide +kernel) (pa_cons (pe_call F_law_told (hr.mono (by omega)) rfl g_law_told k_law_told b_law_told .nil pass0 (pa_cons (pv 8) (pa_cons (pv 3) (pa_cons pe_bl pa_nil)))) pa_nil)) (pe_callB (Rl.call_reprL (K := K) rfl hS hG hr.units) (by rfl) T.b_repr (by decide +kernel) (pa_cons (pv 10) pa_nil)) (nomark _)) (pss_one (ps_ret pe_bl)) pss_nil)))))))))
        (pss_cons (ps_if (PW.pt (pw_or (pt_cmpR op_ne (pe_callB (Rl.call_reprL (K := K) rfl hS hG hr.units) (by rfl) T.b_repr (by decide +kernel) (pa_cons (pe_call F_law_told (hr.mono (by omega)) rfl g_law_told k_law_told b_law_told .nil pass0 (pa_cons (pv 7) (pa_cons (pv 4) (pa_cons pe_bl pa_nil)))) pa_nil)) (pe_callB (Rl.call_reprL (K := K) rfl hS hG hr.units) (by rfl) T.b_repr (by decide +kernel) (pa_cons (pe_lst (pa_cons pe_str (pa_cons (pv 4) pa_nil))) pa_nil)) (nomark _)) (pw_or1 (pt_cmpR op_ne (Prp.pe_propK rfl rfl rfl rfl rfl (pv 3) W.cl PT (hr.mono (by omega)) pass0 rfl) (pe_call F_law_shown (hr.mono (by omega)) rfl g_law_shown k_law_shown b_law_shown .nil pass0 (pa_cons (pv 2) pa_nil)) (nomark _))))) (pss_one (ps_ret pe_bl)) pss_nil)
        (pss_one (ps_ret (pe_cmpR op_eq (pe_callB (Rl.call_reprL (K := K) rfl hS hG hr.units) (by rfl) T.b_repr (by decide +kernel) (pa_cons (pe_call F_law_told (hr.mono (by omega)) rfl g_law_told k_law_told b_law_told .nil pass0 (pa_cons (pv 4) (pa_cons (pe_call F_law_pick (hr.mono (by omega)) rfl g_law_pick k_law_pick b_law_pick .nil pass0 (pa_cons (pv 0) (pa_cons (pe_tup (pa_cons (pv 3) (pa_cons (pv 4) pa_nil))) pa_nil))) (pa_cons pe_bl pa_nil)))) pa_nil)) (pe_callB (Rl.call_reprL (K := K) rfl hS hG hr.units) (by rfl) T.b_repr (by decide +kernel) (pa_cons (pe_lst (pa_cons pe_str (pa_cons (pv 4) pa_nil))) pa_nil)) (nomark _))))))))), ?_⟩
    refine sq fun U hU => ?_
    walk_at "rd"
    refine ⟨by decide, fun p0 hp0 => ?_⟩
    have g1 : Same H (upd H p0 (.tup [.str "x", .str "xy", .str "xyz", .str "bhqz"])) := same_new hp0
    refine ⟨u, .ref p0, _, rfl, hw.but g1, (fun q => hw.ne hp0 (by cases q; rfl)), .tup upd_same, (by decide : 1 ≤ 4), (by decide : 4 ≤ 1000), fun y H1 b1 w1 hy => ?_⟩
    obtain ⟨z, rfl, hz⟩ : ∃ z : Str, y = .str z ∧ (z = "x" ∨ z = "xy" ∨ z = "xyz" ∨ z = "bhqz") := by
      simp only [List.mem_cons, List.not_mem_nil, or_false] at hy
      rcases hy with rfl | rfl | rfl | rfl
      · exact ⟨_, rfl, .inl rfl⟩
      · exact ⟨_, rfl, .inr (.inl rfl)⟩
      · exact ⟨_, rfl, .inr (.inr (.inl rfl))⟩
      · exact ⟨_, rfl, .inr (.inr (.inr rfl))⟩
    refine hU _ _ ?_
    clear hU hy
    have zk : z.cps.toList.Pairwise (· < ·) ∧ (∀ c ∈ z.cps.toList, 97 ≤ c ∧ c ≤ 122) ∧ 1 ≤ z.cps.toList.length ∧ z.cps.toList.length ≤ 4 := by
      rcases hz with rfl | rfl | rfl | rfl <;> decide +kernel
    have B1 : But u H H1 := (But.same g1).trans b1
    refine sq fun U hU => ?_
    walk_at "rd"
    refine ⟨u, z, rfl, w1, zk.1, zk.2.1, zk.2.2.1, zk.2.2.2, fun a dn dc ns ds H2 b2 w2 hls en nau nnu ncu => hU _ _ ?_⟩
    clear hU
    have B2 := B1.trans b2
    refine sq fun U hU => ?_
    walk_at "rd"
    refine ⟨3, a, dn, dc, ns, ds, rfl, hls, by decide, fun r H3 s3 hst => ⟨u, rfl, w2.but s3, fun o od H4 b4 w4 ho od1 od2 od3 => hU _ _ ?_⟩⟩
    clear hU
    have B4 := (B2.trans (But.same s3)).trans b4
    have hls4 := LSt.but (LSt.up hls s3) b4 nau nnu ncu
    have hst4 := StA.but2 b4 (w2.but s3) hst
    clear b1 b2 b4 w1 w2 B1 B2 s3 g1 hp0 hls hst
    refine sq fun U hU => ?_
    walk_at "rd"
    refine ⟨by decide, by decide, for_r (riP K C H u a dn dc r ns ds z o od) ⟨B4, w4, hls4, hst4, ho, none, none, none, none, none, none, fun q => absurd q (by decide), rfl⟩ ?_ ?_⟩
    · rintro i σ H5 hi ⟨hb, wl, hls, hst, ho, v5, v6, v7, v8, v9, v10, hv7, rfl⟩
      simp only [gName_, List.set_cons_succ, List.set_cons_zero]
      refine sq fun V2 hV => ?_
      walk_at "rd"
      have zlen : z.length ≤ 10000 := by rcases hz with rfl | rfl | rfl | rfl <;> decide
      have sg1 : Sg (Txt.mul z 3 ++ Str.ofString "e") := by
        unfold Sg
        rcases hz with rfl | rfl | rfl | rfl <;> decide +kernel
      have sg2 : Sg (Txt.mul z 3 ++ cutS z none (some 1)) := by
        unfold Sg
        rcases hz with rfl | rfl | rfl | rfl <;> decide +kernel
      have lsg : ∀ a b : Str, Sg (a ++ b) → a.length + b.length ≤ sizeLine := fun a b h => by
        have := h.1
        rw [Str.length_append] at this
        omega
      have done : ∀ zz : Str, Sg zz → spQuiz K [.ref u, .str zz] H5 (fun x H1 => V2 [some (.ref u), some (.str z), some (.ref a), some (.ref r), some o, some (.int (0 + i)), some x, v7, v8, v9, v10] H1) E0 := fun zz hzz => by
        refine ⟨u, zz, rfl, wl, hzz, fun x d H6 b6 w6 hx hd1 hd2 ht => hV _ _ ?_⟩
        clear hV
        have hx6 := hx.up newp_sub
        have hls6 := LSt.but hls b6 nau nnu ncu
        have hst6 := StA.but2 b6 wl hst
        have ho6 := dq_but b6 wl ho
        have B6 := hb.trans b6
        refine sq fun V2 hV => ?_
        walk_at "rd"
        refine ⟨x, d, rfl, hx6, ht, fun H7 s7 => hV _ _ ?_⟩
        clear hV
        have tb := tk_bt (test_tok ht)
        have tsm := tb.sm (by decide)
        have eo : testOfD (.str (testText d)) = some d := pOf_text ht
        refine sq fun V2 hV => ?_
        refine iq fun T1 U1 hT1 hU1 => ?_
        walk_at "rd"
        refine ⟨_, _, _, .str (testText d), rfl, .str _ tsm, fun e => by rw [eo] at e; (cases e), fun t et => ?_⟩
        rw [eo] at et
        cases et
        refine .inl ⟨r, ns, srt ds, rfl, hst6.up s7, fun D H8 s8 hD => ?_⟩
        obtain ⟨q1, q2, q3⟩ := due_ok (K := K) (H := H8) ns d
        refine ⟨D, rfl, _, hD, _, q1, q2, q3, ?_⟩
        have s78 := s7.trans s8
        refine ⟨3, a, dn, dc, ns, ds, x, d, rfl, LSt.up hls6 s78, hx6.up s78, ht, fun D2 H9 s9 hD2 => ?_⟩
        obtain ⟨q1', q2', q3'⟩ := due_ok (K := K) (H := H9) ns d
        refine ⟨D2, rfl, _, hD2, _, q1', q2', q3', ?_⟩
        walk_at "rd"
        refine hU1 _ ?_
        clear hT1 hU1
        walk_at "rd"
        refine hV _ _ ?_
        clear hV
        have s79 := s78.trans s9
        have w9 := w6.but s79
        have ls9 := LSt.up hls6 s79
        have st9 := hst6.up s79
        have ho9 := ho6.up s79
        have B9 := B6.trans (But.same s79)
        clear B6 hls6 hst6 ho6 hx6 s7 s8 s9 s78 s79 q1 q2 q3 q1' q2' q3'
        refine sq fun V2 hV => ?_
        walk_at "rd"
        refine ⟨u, _, 40, rfl, w9, tb, by decide, fun bt H10 b10 w10 bbt => hV _ _ ?_⟩
        clear hV
        have ls10 := LSt.but ls9 b10 nau nnu ncu
        have st10 := StA.but2 b10 w9 st9
        have ho10 := dq_but b10 w9 ho9
        have B10 := B9.trans b10
        have bsm : smS bt = true := bbt.sm (by decide)
        refine sq fun V2 hV => ?_
        walk_at "rd"
        refine ⟨bt, rfl, bsm, fun ag H11 s11 hag => hV _ _ ?_⟩
        clear hV
        have ls11 := LSt.up ls10 s11
        have st11 := st10.up s11
        have ho11 := ho10.up s11
        have B11 := B10.trans (But.same s11)
        have w11 := w10.but s11
        have eb : testOfD (.str bt) = lOf bt := pOf_lOf bt
        have bwt : bt.length ≤ 200 := Nat.le_trans bbt.l (by omega)
        have ed : ∀ H, Dq K H (.str bt) (.str bt) := fun H => .str _ bsm
        clear ls9 st9 ho9 B9 ls10 st10 ho10 B10 w9 w10
        have endI : ∀ H', Same H11 H' → ∀ v10 : Option V, riP K C H u a dn dc r ns ds z o od (i + 1) [some (.ref u), some (.str z), some (.ref a), some (.ref r), some o, some (.int (0 + i)), some x, some (.str (testText d)), some (.str bt), some ag, v10] H' := fun H' s v10 =>
          ⟨B11.trans (But.same s), w11.but s, LSt.up ls11 s, st11.up s, ho11.up s, _, _, _, _, _, _, fun _ => ⟨d, rfl, ht⟩, rfl⟩
        refine sq fun V2 hV => ?_
        walk_at "rd"
        cases e : lOf bt with
        | none =>
          rw [e] at hag eb
          have ea : ag = .non := hag
          rw [if_pos ea]
          refine ⟨by omega, fun D hD => hV _ _ ?_⟩
          clear hV
          have s12 : Same H11 (upd H11 D (.lst [.str (Str.ofString "test"), .str bt])) := same_new hD
          have f12 : upd H11 D (.lst [.str (Str.ofString "test"), .str bt]) D = some (.lst [.str (Str.ofString "test"), .str bt]) := upd_same
          generalize upd H11 D (.lst [.str (Str.ofString "test"), .str bt]) = H12 at s12 f12 ⊢
          walk_at "rd"
          have tw : ∀ H, _ := fun H => two_ok (K := K) (H := H) (s := Str.ofString "test") (by decide +kernel) (by decide) (ed H) (by simp only [PyData.depth]; omega) (by simp only [wt]; omega)
          refine ⟨_, _, _, .str bt, rfl, ed _, fun _ D2 H13 s13 hD2 => ?_, fun t et => by rw [eb] at et; (cases et)⟩
          refine ⟨D2, rfl, _, hD2, _, (tw H13).1, (tw H13).2.1, (tw H13).2.2, _, s13 _ _ f12, _, (tw H13).1, (tw H13).2.1, (tw H13).2.2, ?_⟩
          walk_at "rd"
          exact endI _ (s12.trans s13) _
        | some t =>
          rw [e] at hag eb
          have hag : Dq K H11 ag t := hag
          have tt := pOf_test eb
          have na : ag ≠ .non := fun zz => by
            rw [zz] at hag
            cases hag
            cases tt
          rw [if_neg na]
          refine ⟨3, a, dn, dc, ns, ds, ag, t, rfl, ls11, hag, tt, fun D H12 s12 f12 => hV _ _ ?_⟩
          clear hV
          walk_at "rd"
          refine ⟨_, _, _, .str bt, rfl, ed _, fun et => by rw [eb] at et; (cases et), fun t2 et => ?_⟩
          rw [eb] at et
          cases et
          refine .inl ⟨r, ns, srt ds, rfl, st11.up s12, fun D2 H13 s13 hD2 => ?_⟩
          have tw : ∀ H, _ := fun H => due_ok (K := K) (H := H) ns t
          refine ⟨D2, rfl, _, hD2, _, (tw H13).1, (tw H13).2.1, (tw H13).2.2, _, s13 _ _ f12, _, (tw H13).1, (tw H13).2.1, (tw H13).2.2, ?_⟩
          walk_at "rd"
          exact endI _ (s12.trans s13) _
      refine ⟨z, 3, rfl, rfl, by decide, by decide, zlen, ?_⟩
      show (if 2 < 0 + (i : Int) then _ else _)
      by_cases c : 2 < 0 + (i : Int)
      · rw [if_pos c]
        exact ⟨_, rfl, lsg _ _ sg1, done _ sg1⟩
      · rw [if_neg c]
        exact ⟨z, rfl, by omega, _, rfl, _, rfl, lsg _ _ sg2, done _ sg2⟩
    rintro σ H5 ⟨hb, wl, hls, hst, ho, v5, v6, v7, v8, v9, v10, hv7, rfl⟩
    obtain ⟨d, rfl, ht⟩ := hv7 (by decide)
    refine hU _ _ ?_
    clear hU
    refine sq fun U hU => ?_
    refine iq fun T1 U1 hT1 hU1 => ?_
    walk_at "rd"
    have tb := tk_bt (test_tok ht)
    have tsm := tb.sm (by decide)
    have eo : testOfD (.str (testText d)) = some d := pOf_text ht
    have tw : ∀ H, Dq K H o od → _ := fun H h => two_ok (K := K) (H := H) (s := Str.ofString "store") (by decide +kernel) (by decide) h (by omega) (by omega)
    have tt : ∀ H, Dq K H o od → _ := fun H h => two_ok (K := K) (H := H) (s := Str.ofString "test") (by decide +kernel) (by decide) h (by omega) (by omega)
    refine ⟨_, _, _, .str (testText d), rfl, .str _ tsm, fun e => by rw [eo] at e; (cases e), fun t et => .inr ⟨od, ho, fun D H6 s6 hD => ?_⟩⟩
    have ho6 := ho.up s6
    refine ⟨D, rfl, _, hD, _, (tw _ ho6).1, (tw _ ho6).2.1, (tw _ ho6).2.2, by omega, fun p hp => ?_⟩
    have s7 := same_new (o := .lst [.str (Str.ofString "store"), o]) hp
    have ho7 := ho6.up s7
    refine ⟨_, upd_same, _, (tw _ ho7).1, (tw _ ho7).2.1, (tw _ ho7).2.2, ?_⟩
    have s57 := s6.trans s7
    generalize upd H6 p (.lst [.str (Str.ofString "store"), o]) = H7 at s7 ho7 s57 ⊢
    have ls7 := LSt.up hls s57
    have st7 := hst.up s57
    obtain ⟨dx7, an7, ac7, dp7, da7, hr7, _⟩ := id st7
    walk_at "rd"
    refine ⟨_, _, hr7, r, ns, srt ds, rfl, st7, fun H8 s8 => ⟨3, a, dn, dc, ns, ds, rfl, LSt.up ls7 s8, by decide, fun H9 s9 => ?_⟩⟩
    walk_at "rd"
    refine hU1 _ ?_
    clear hT1 hU1
    walk_at "rd"
    refine hU _ _ ?_
    clear hU
    have s59 := s57.trans (s8.trans s9)
    have B9 := hb.trans (But.same s59)
    have w9 := wl.but s59
    have st9 := hst.up s59
    have ho9 := ho.up s59
    walk_at "rd"
    refine ⟨by omega, fun p hp => ?_⟩
    have s10 := same_new (o := .tup [.ref r, o]) hp
    refine ⟨u, .ref p, _, rfl, w9.but s10, (fun q => w9.ne hp (by cases q; rfl)), .tup upd_same, (by decide : 1 ≤ 2), (by decide : 2 ≤ 1000), fun y H10 b10 w10 _ => ?_⟩
    have ho10 := dq_but b10 (w9.but s10) (ho9.up s10)
    have B10 := (B9.trans (But.same s10)).trans b10
    refine ⟨o, y, false, od, rfl, ho10, fun _ D H11 s11 hD => ?_, fun t et => by rw [od3] at et; (cases et)⟩
    have ho11 := ho10.up s11
    refine ⟨D, rfl, _, hD, _, (tt _ ho11).1, (tt _ ho11).2.1, (tt _ ho11).2.2, by omega, fun p2 hp2 => ?_⟩
    have s12 := same_new (o := .lst [.str (Str.ofString "test"), o]) hp2
    refine ⟨_, upd_same, _, (tt _ (ho11.up s12)).1, (tt _ (ho11.up s12)).2.1, (tt _ (ho11.up s12)).2.2, ?_⟩
    rw [decide_eq_true rfl]
    exact k _ (B10.trans (But.same (s11.trans s12))) ((w10.but s11).but s12)
end
end K40

set_option Elab.async false
set_option linter.all false
set_option maxRecDepth 100000
set_option maxHeartbeats 4000000
namespace K40
open PySem PySem.Spec PyProof.Rows L2 Rd Dt Dq Pk Ln En Sx Sy So Sr Lk TL
open K40S (StA StB StM LSt HpA HpB spMade spTxt map_at kit_self sorted_names keys_n keys_c get_n get_d DcOk asc_nodup nuP nuP_step vN)
local macro_rules | `(tactic| walk_at "rd") => `(tactic| try simp only [↓De.tFor_str, ↓Lk.tLockE_, ↓Lk.tLock_, ↓Lk.tLc_keys, ↓Lk.tFor_keys, ↓Sy.tTupP_, ↓Sy.rTupP_, ↓Sy.rCatP_, ↓Sy.rSlP_, ↓Sy.rDictT_, ↓Sy.tDGet_, ↓Sy.tDGet1_, ↓Sy.tDIn_, ↓Sy.tDNotIn_, ↓Sy.tMeth_, ↓Sy.tMethKw_, ↓Sy.rSortedS_, ↓Sx.rIsT_, ↓En.tFor_enumT, ↓Sy.tFor_enumL, ↓Rv.tMakeKw_, ↓Prp.tProp_, ↓Lo.tBits_, ↓Lo.tJs_n, ↓Lo.tJs_c, ↓Lo.tFmt_, ↓Lo.gFld_, ↓Lo.tMake_, ↓Lo.rOwn_, ↓Rg.tFor_range3, ↓Rg.tLc_range3, ↓Rg.tLstC_, ↓Rg.tLc_rngV, ↓Le.rNeLE_, ↓Le.rEqLE_, ↓Ls.tLc_str, ↓Ls.sDPut_, ↓Rl.rReprL_, ↓Rl.tCallKS_, ↓Ob.tFld_, ↓Ob.sFld_, ↓tVar_, ↓tC_, ↓tM1, ↓tDNewK_, ↓tOp_, ↓tUn_, ↓rI_, ↓rI0_, ↓rU_, ↓eq_ii, ↓ne_ii, ↓eq_ss, ↓ne_ss, ↓eq_bb, ↓ne_bb, ↓tAndV_, ↓tOrV_, ↓tNotV_, ↓tIf_, ↓tTest_, ↓tB_, ↓tAnd_, ↓tOr_, ↓tNot_, ↓tChain_, ↓tNil_, ↓tCons_, ↓tTup_, ↓tLst_, ↓tCB_, ↓tCall_, ↓tSeq_, ↓tNext_, ↓tRet_, ↓tRetN_, ↓tDrop_, ↓tBreak_, ↓tNever_, ↓tIfS_, ↓tAsg_, ↓gName_, ↓gTup_, ↓gCons_, ↓gNil_, ↓gSub_, ↓tPar_, ↓tPar3_, ↓tSl_, ↓tNoPart_, ↓tPart_, ↓tBM_, ↓tFor_range1, ↓tFor_range2, ↓tFor_list, ↓tFor_tup, L2.start, List.headD_cons, List.headD_nil, List.tail_cons, List.map_cons, List.map_nil, List.length_cons, List.length_nil, List.replicate, List.append_nil, List.nil_append, List.cons_append, List.getElem?_cons_zero, List.getElem?_cons_succ, List.set_cons_zero, List.set_cons_succ, Option.some.injEq, V.int.injEq, V.bl.injEq, V.str.injEq, V.ref.injEq, exists_eq_left, exists_eq_left', exists_eq_right, exists_eq, exists_and_left, and_true, true_and, decide_eq_true_eq, Nat.reduceAdd, Nat.reduceSub, Nat.add_zero, Nat.zero_add, List.cons.injEq, Bool.not_eq_true', decide_eq_false_iff_not, eq_self, reduceCtorEq, Bool.false_eq_true, if_true, if_false, ite_true, ite_false, and_self, ↓tLc_range1, ↓tLc_range2, ↓tLc_list, ↓tLc_tup, ↓tYes_, wipe0, wipe1, ↓tCallS_, ↓rIxL_, ↓rIxT_, ↓rSlL_, ↓rCat_, ↓rSetL_, ↓rRep_, ↓rGcd_, ↓tCallK_, ↓gUnl_, ↓tRaise_, decide_true, decide_false, not_true_eq_false, not_false_eq_true, false_and, or_false, false_or, and_false, and_assoc, exists_const, forall_const, forall_eq'])
section
variable {P : Program} {w : World} {K : PySem.W.Frag} {mg : Str → Option Value} {base : Heap}
theorem sc_law : FnScope ["_law_script", "_law_turn"] ["_law_script"] (defScope (top 64)) := ⟨rfl, rfl, rfl, by decide +kernel, rfl, by decide +kernel, by decide +kernel⟩
def spLaw (K : PySem.W.Frag) : Sp := fun vs H Q _ => ∃ (a : Addr) (ns : List Int), vs = [.ref a] ∧ SqL K H a (ns.map V.int) ∧ ns.length ≤ 63 ∧ ∀ H', Q (.bl true) H'
def lwP (H : Hp) (D : Addr) (i : Nat) (H' : Hp) : Prop := Same H H' ∧ H' D = some (.lst ((List.replicate i true).map V.bl))
theorem ok_law (T : Tx mg) {f : Addr} {fd : FuncData} (F : FD K "law" (top 64) f fd) {f1 f2 : Addr} {fd1 fd2 : FuncData} (C1 : CalG P w K mg base CX0 10 "_law_right" ["_law_well_here"] spG f1 fd1)
    (C2 : Cal P w K mg base CX0 1 "_law_well" ["_law_script", "_law_turn"] (spWell K) f2 fd2) : Ga.FnG P w K mg base CX0 11 f fd ["_law_script"] (spLaw K) := by
  obtain ⟨g_law_right, k_law_right, b_law_right, F_law_right⟩ := C1
  obtain ⟨g_law_well, k_law_well, b_law_well, F_law_well⟩ := C2
  refine Ga.FnG.mk' F sc_law (fun vs H Q E h => ?_) (fun cdv A outer s' H vs Q E hG hr h => ?_)
  · obtain ⟨_, _, rfl, _⟩ := h
    rfl
  · obtain ⟨a, ns, rfl, ha, hn, k⟩ := h
    have nd := sc_law.nd
    refine ⟨_, (pss_one (ps_ret (pe_callB (cr_all rfl) (by rfl) T.b_all (by decide +kernel) (pa_cons (pe_lc (own := [("_law_turn", 1)]) rfl nd (pi_range1 rfl T.b_range (pa_cons (pe_callB (call_max2 rfl) (by rfl) T.b_max (by decide +kernel) (pa_cons pe_int (pa_cons (pe_callB (call_min2 rfl) (by rfl) T.b_min (by decide +kernel) (pa_cons (pe_callB call_len_seq (by rfl) T.b_len PySem.boot_len (pa_cons (pv 0) pa_nil)) (pa_cons pe_int pa_nil))) pa_nil))) pa_nil)) (blkOk_by (N := ["_law_script", "_law_turn"]) (sc := defScope (top 64)) (by decide +kernel)) (fun _ _ _ _ _ => (pg_name (i := 1) nd rfl (Or.inl rfl))) (fun _ _ _ _ _ => pts_nil) (fun _ _ _ _ _ => (Ga.pe_callG F_law_right hG (hr.mono (by omega)) rfl g_law_right k_law_right b_law_right .nil pass0 (pa_cons (pe_call F_law_well (hr.mono (by omega)) rfl g_law_well k_law_well b_law_well .nil pass0 (pa_cons (pv 0) (pa_cons (pv 1) pa_nil))) pa_nil)))) pa_nil)))), ?_⟩
    walk_at "rd"
    refine ⟨_, .inl ha, ?_⟩
    have en : ∃ n : Int, n = (if (if 3 < ((ns.map V.int).length : Int) then 3 else ((ns.map V.int).length : Int)) > 2 then (if 3 < ((ns.map V.int).length : Int) then 3 else ((ns.map V.int).length : Int)) else 2) ∧ 2 ≤ n ∧ n ≤ 3 := ⟨_, rfl, by split <;> omega, by split <;> split <;> omega⟩
    obtain ⟨n, e, n2, n3⟩ := en
    rw [← e]
    refine ⟨by omega, by omega, lc_r (lwP H) fun D hD => ⟨⟨same_new hD, upd_same⟩, ?_, ?_⟩⟩
    · rintro i H' hi ⟨hs, hL⟩
      unfold Lturn
      walk_at "rd"
      refine ⟨a, ns, _, rfl, hs.seq ha, hn, by omega, by omega, fun u H1 s1 u0 w1 => ⟨u, rfl, w1, fun H2 b2 w2 => ?_⟩⟩
      have s2 : Same H' H2 := fun b o e => b2 b o (ne_of_none e u0) (s1 b o e)
      refine ⟨_, s2 _ _ hL, ?_, fun b o e => ?_, ?_⟩
      · rw [List.length_map, List.length_replicate]
        refine Nat.lt_of_le_of_lt (show i ≤ 3 by omega) (by rw [sizeLine_eq]; decide)
      · rw [upd_ne (ne_of_none e hD)]
        exact s2 b o (hs b o e)
      · rw [upd_same, List.replicate_succ', List.map_append]; rfl
    · rintro H' ⟨hs, hL⟩
      refine ⟨D, _, rfl, SqL.of hL, ?_⟩
      rw [show (List.replicate n.toNat true).all id = true from by simp]
      exact k _
end
end K40

set_option Elab.async false
set_option linter.all false
set_option maxRecDepth 100000
set_option maxHeartbeats 0
namespace K40H
open PySem PySem.Spec PyProof.Rows L2 Rd Dt Dq Pk Ln En Sx Sy So Sr Lk TL K40
def d0 : He.DefD := ⟨("InvalidTest", some "__init__"), "__init__", "InvalidTest.__init__", defArgs (inClass (top 5) 0), defBody (inClass (top 5) 0), defScope (inClass (top 5) 0), [], []⟩
def d1 : He.DefD := ⟨("NotAStore", some "__init__"), "__init__", "NotAStore.__init__", defArgs (inClass (top 6) 0), defBody (inClass (top 6) 0), defScope (inClass (top 6) 0), [], []⟩
def d2 : He.DefD := ⟨("UnknownName", some "__init__"), "__init__", "UnknownName.__init__", defArgs (inClass (top 7) 0), defBody (inClass (top 7) 0), defScope (inClass (top 7) 0), [], []⟩
def d3 : He.DefD := ⟨("is_whole", none), "is_whole", "is_whole", defArgs (top 15), defBody (top 15), defScope (top 15), [], []⟩
def d4 : He.DefD := ⟨("is_between", none), "is_between", "is_between", defArgs (top 16), defBody (top 16), defScope (top 16), [], []⟩
def d5 : He.DefD := ⟨("is_place", none), "is_place", "is_place", defArgs (top 17), defBody (top 17), defScope (top 17), [], []⟩
def d6 : He.DefD := ⟨("is_letter", none), "is_letter", "is_letter", defArgs (top 18), defBody (top 18), defScope (top 18), [], []⟩
def d7 : He.DefD := ⟨("is_pair", none), "is_pair", "is_pair", defArgs (top 19), defBody (top 19), defScope (top 19), [], []⟩
def d8 : He.DefD := ⟨("are_name_pairs", none), "are_name_pairs", "are_name_pairs", defArgs (top 21), defBody (top 21), defScope (top 21), [], []⟩
def d9 : He.DefD := ⟨("check_cells", none), "check_cells", "check_cells", defArgs (top 22), defBody (top 22), defScope (top 22), [], []⟩
def d10 : He.DefD := ⟨("Store", some "__init__"), "__init__", "Store.__init__", defArgs (inClass (top 23) 0), defBody (inClass (top 23) 0), defScope (inClass (top 23) 0), [], []⟩
def d11 : He.DefD := ⟨("check_store", none), "check_store", "check_store", defArgs (top 24), defBody (top 24), defScope (top 24), [], []⟩
def d12 : He.DefD := ⟨("Heap", some "__init__"), "__init__", "Heap.__init__", defArgs (inClass (top 26) 0), defBody (inClass (top 26) 0), defScope (inClass (top 26) 0), [], []⟩
def d13 : He.DefD := ⟨("Heap", some "place_of"), "place_of", "Heap.place_of", defArgs (inClass (top 26) 1), defBody (inClass (top 26) 1), defScope (inClass (top 26) 1), [], []⟩
def d14 : He.DefD := ⟨("Heap", some "is_same"), "is_same", "Heap.is_same", defArgs (inClass (top 26) 4), defBody (inClass (top 26) 4), defScope (inClass (top 26) 4), [], []⟩
def d15 : He.DefD := ⟨("Heap", some "holds"), "holds", "Heap.holds", defArgs (inClass (top 26) 5), defBody (inClass (top 26) 5), defScope (inClass (top 26) 5), [], []⟩
def d16 : He.DefD := ⟨("heap_of", none), "heap_of", "heap_of", defArgs (top 27), defBody (top 27), defScope (top 27), [], []⟩
def d17 : He.DefD := ⟨("is_goal", none), "is_goal", "is_goal", defArgs (top 30), defBody (top 30), defScope (top 30), [], []⟩
def d18 : He.DefD := ⟨("Words", some "__init__"), "__init__", "Words.__init__", defArgs (inClass (top 31) 0), defBody (inClass (top 31) 0), defScope (inClass (top 31) 0), [], []⟩
def d19 : He.DefD := ⟨("Words", some "peek"), "peek", "Words.peek", defArgs (inClass (top 31) 1), defBody (inClass (top 31) 1), defScope (inClass (top 31) 1), [], []⟩
def d20 : He.DefD := ⟨("Words", some "take"), "take", "Words.take", defArgs (inClass (top 31) 2), defBody (inClass (top 31) 2), defScope (inClass (top 31) 2), [], []⟩
def d21 : He.DefD := ⟨("Words", some "is_over"), "is_over", "Words.is_over", defArgs (inClass (top 31) 3), defBody (inClass (top 31) 3), defScope (inClass (top 31) 3), [], []⟩
def d22 : He.DefD := ⟨("split_words", none), "split_words", "split_words", defArgs (top 32), defBody (top 32), defScope (top 32), [], []⟩
def d23 : He.DefD := ⟨("read_comparison", none), "read_comparison", "read_comparison", defArgs (top 33), defBody (top 33), defScope (top 33), [], []⟩
def d24 : He.DefD := ⟨("read_test", none), "read_test", "read_test", defArgs (top 34), defBody (top 34), defScope (top 34), [], []⟩
def d25 : He.DefD := ⟨("test_of", none), "test_of", "test_of", defArgs (top 35), defBody (top 35), defScope (top 35), [], []⟩
def d26 : He.DefD := ⟨("test_tree", none), "test_tree", "test_tree", defArgs (top 37), defBody (top 37), defScope (top 37), [], []⟩
def d27 : He.DefD := ⟨("test_letters", none), "test_letters", "test_letters", defArgs (top 38), defBody (top 38), defScope (top 38), [], []⟩
def d28 : He.DefD := ⟨("check_known", none), "check_known", "check_known", defArgs (top 40), defBody (top 40), defScope (top 40), [], []⟩
def d29 : He.DefD := ⟨("holds", none), "holds", "holds", defArgs (top 41), defBody (top 41), defScope (top 41), [], []⟩
def d30 : He.DefD := ⟨("_law_well", none), "_law_well", "_law_well", defArgs (top 43), defBody (top 43), defScope (top 43), [], []⟩
def d31 : He.DefD := ⟨("_law_take", none), "_law_take", "_law_take", defArgs (top 44), defBody (top 44), defScope (top 44), [], []⟩
def d32 : He.DefD := ⟨("_law_pick", none), "_law_pick", "_law_pick", defArgs (top 45), defBody (top 45), defScope (top 45), [], []⟩
def d33 : He.DefD := ⟨("_law_drawn", none), "_law_drawn", "_law_drawn", defArgs (top 46), defBody (top 46), defScope (top 46), [], []⟩
def d34 : He.DefD := ⟨("_law_store", none), "_law_store", "_law_store", defArgs (top 47), defBody (top 47), defScope (top 47), [], []⟩
def d35 : He.DefD := ⟨("_law_shown", none), "_law_shown", "_law_shown", defArgs (top 48), defBody (top 48), defScope (top 48), [], []⟩
def d36 : He.DefD := ⟨("_law_is_so", none), "_law_is_so", "_law_is_so", defArgs (top 49), defBody (top 49), defScope (top 49), [], []⟩
def d37 : He.DefD := ⟨("_law_quiz", none), "_law_quiz", "_law_quiz", defArgs (top 50), defBody (top 50), defScope (top 50), [], []⟩
def d38 : He.DefD := ⟨("_law_quiz_said", none), "_law_quiz_said", "_law_quiz_said", defArgs (top 51), defBody (top 51), defScope (top 51), [], []⟩
def d39 : He.DefD := ⟨("_law_ahead_word", none), "_law_ahead_word", "_law_ahead_word", defArgs (top 52), defBody (top 52), defScope (top 52), [], []⟩
def d40 : He.DefD := ⟨("_law_next_word", none), "_law_next_word", "_law_next_word", defArgs (top 53), defBody (top 53), defScope (top 53), [], []⟩
def d41 : He.DefD := ⟨("_law_is_sign", none), "_law_is_sign", "_law_is_sign", defArgs (top 54), defBody (top 54), defScope (top 54), [], []⟩
def d42 : He.DefD := ⟨("_law_is_goal", none), "_law_is_goal", "_law_is_goal", defArgs (top 55), defBody (top 55), defScope (top 55), [], []⟩
def d43 : He.DefD := ⟨("_law_read_quiz", none), "_law_read_quiz", "_law_read_quiz", defArgs (top 56), defBody (top 56), defScope (top 56), [], []⟩
def d44 : He.DefD := ⟨("_law_bent", none), "_law_bent", "_law_bent", defArgs (top 57), defBody (top 57), defScope (top 57), [], []⟩
def d45 : He.DefD := ⟨("_law_odd", none), "_law_odd", "_law_odd", defArgs (top 58), defBody (top 58), defScope (top 58), [], []⟩
def d46 : He.DefD := ⟨("_law_lacking", none), "_law_lacking", "_law_lacking", defArgs (top 59), defBody (top 59), defScope (top 59), [], []⟩
def d47 : He.DefD := ⟨("_law_told", none), "_law_told", "_law_told", defArgs (top 60), defBody (top 60), defScope (top 60), [], []⟩
def d48 : He.DefD := ⟨("_law_quiz_read", none), "_law_quiz_read", "_law_quiz_read", defArgs (top 61), defBody (top 61), defScope (top 61), [], []⟩
def d49 : He.DefD := ⟨("_law_due", none), "_law_due", "_law_due", defArgs (top 62), defBody (top 62), defScope (top 62), [], []⟩
def d50 : He.DefD := ⟨("_law_right", none), "_law_right", "_law_right", defArgs (top 63), defBody (top 63), defScope (top 63), [], []⟩
def d51 : He.DefD := ⟨("law", none), "law", "law", defArgs (top 64), defBody (top 64), defScope (top 64), [], []⟩
def fn : List He.DefD := [d0, d1, d2, d3, d4, d5, d6, d7, d8, d9, d10, d11, d12, d13, d14, d15, d16, d17, d18, d19, d20, d21, d22, d23, d24, d25, d26, d27, d28, d29, d30, d31, d32, d33, d34, d35, d36, d37, d38, d39, d40, d41, d42, d43, d44, d45, d46, d47, d48, d49, d50, d51]
def fa : List He.Fa := [.glo "InvalidTest", .glo "NotAStore", .glo "UnknownName", .glo "is_whole", .glo "is_between", .glo "is_place", .glo "is_letter", .glo "is_pair", .glo "are_name_pairs", .glo "check_cells", .glo "Store", .glo "check_store", .glo "Heap", .glo "heap_of", .glo "is_goal", .glo "Words", .glo "split_words", .glo "read_comparison", .glo "read_test", .glo "test_of", .glo "test_tree", .glo "test_letters", .glo "check_known", .glo "holds", .glo "_law_well", .glo "_law_take", .glo "_law_pick", .glo "_law_drawn", .glo "_law_store", .glo "_law_shown", .glo "_law_is_so", .glo "_law_quiz", .glo "_law_quiz_said", .glo "_law_ahead_word", .glo "_law_next_word", .glo "_law_is_sign", .glo "_law_is_goal", .glo "_law_read_quiz", .glo "_law_bent", .glo "_law_odd", .glo "_law_lacking", .glo "_law_told", .glo "_law_quiz_read", .glo "_law_due", .glo "_law_right", .glo "law", .glo "ArrowError", .free "len", .free "int", .free "isinstance", .free "abs", .free "divmod", .free "range", .free "max", .free "min", .free "repr", .free "all", .free "list", .free "tuple", .free "str", .free "sum", .free "bool", .free "dict", .free "enumerate", .free "sorted", .free "set", .free "any", .int "END" (0), .int "MOST_PLACE" (999), .int "MOST_CELLS" (500), .int "MOST_NAMES" (4), .int "MOST_COMPARISONS" (3), .str "LETTERS" abc, .cls "Store", .noat "Store" "names", .noat "Store" "cells", .noat "Store" "places", .noat "Store" "arrows", .noat "Store" "letters", .mkr "Store", .cls "Heap", .noat "Heap" "names", .noat "Heap" "cells", .noat "Heap" "used", .noat "Heap" "made", .mkr "Heap", .meth "Heap" "place_of", .meth "Heap" "is_same", .meth "Heap" "holds", .cls "Words", .noat "Words" "words", .noat "Words" "at", .mkr "Words", .meth "Words" "peek", .meth "Words" "take", .meth "Words" "is_over"]
def ex (K : PySem.W.Frag) : Bool := Sm.sysB K && (Lo.ownB K "Store" && (Exx.erB K "InvalidTest" "given" && (Exx.erB K "NotAStore" "given" && (Exx.erB K "UnknownName" "given" && ((nDat.all fun t => decide (PySem.W.kitOne K t (.ref (He.ga K "Store")) = some false)) && (decide (PySem.W.exmOne K (.ref (He.ga K "NotAStore")) (.ref (He.ga K "InvalidTest")) = some false) && (decide (PySem.W.exmOne K (.ref (He.ga K "UnknownName")) (.ref (He.ga K "InvalidTest")) = some false) && (decide (PySem.W.exmOne K (.ref (He.ga K "UnknownName")) (.ref (He.ga K "NotAStore")) = some false) && (decide (PySem.W.kitOne K (.ref (He.ga K "UnknownName")) (.ref (He.ga K "ArrowError")) = some true))))))))))
def prs : List Prp.PrD := [⟨"Store", ⟨("Store", some "text"), "text", "Store.text", defArgs (inClass (top 23) 2), defBody (inClass (top 23) 2), defScope (inClass (top 23) 2), [], []⟩⟩]
abbrev R : PySem.W.OpenRow := PySem.W.OpenLaw.row PySem.Challenge.rw_arrowcells_k40_tests_on_stores
abbrev hk : PySem.W.Hook := Prp.hookP 6 fa fn prs ex
def ob (s : PySem.W.SharedT) : Prp.AlP := Prp.obsP 6 fa fn prs ex (HandSHeadRun.getT s)
theorem ob_eq (s : PySem.W.SharedT) : ob s = hk.obs s.abs := Prp.obsP_eq (HandSHeadRun.getT_eq s)
abbrev nm : List PySem.Str := ("_wall" : PySem.Str) :: ("ArrowError" : PySem.Str) :: ("InvalidNames" : PySem.Str) :: ("InvalidPlace" : PySem.Str) :: ("InvalidTest" : PySem.Str) :: ("NotAStore" : PySem.Str) :: ("UnknownName" : PySem.Str) :: ("InvalidCells" : PySem.Str) :: ("LETTERS" : PySem.Str) :: ("END" : PySem.Str) :: ("MOST_PLACE" : PySem.Str) :: ("MOST_CELLS" : PySem.Str) :: ("MOST_NAMES" : PySem.Str) :: ("is_whole" : PySem.Str) :: ("is_between" : PySem.Str) :: ("is_place" : PySem.Str) :: ("is_letter" : PySem.Str) :: ("is_pair" : PySem.Str) :: ("are_name_pairs" : PySem.Str) :: ("check_cells" : PySem.Str) :: ("Store" : PySem.Str) :: ("check_store" : PySem.Str) :: ("Heap" : PySem.Str) :: ("heap_of" : PySem.Str) :: ("MOST_COMPARISONS" : PySem.Str) :: ("is_goal" : PySem.Str) :: ("Words" : PySem.Str) :: ("split_words" : PySem.Str) :: ("read_comparison" : PySem.Str) :: ("read_test" : PySem.Str) :: ("test_of" : PySem.Str) :: ("test_tree" : PySem.Str) :: ("test_letters" : PySem.Str) :: ("check_known" : PySem.Str) :: ("holds" : PySem.Str) :: ("_law_well" : PySem.Str) :: ("_law_take" : PySem.Str) :: ("_law_pick" : PySem.Str) :: ("_law_drawn" : PySem.Str) :: ("_law_store" : PySem.Str) :: ("_law_shown" : PySem.Str) :: ("_law_is_so" : PySem.Str) :: ("_law_quiz" : PySem.Str) :: ("_law_quiz_said" : PySem.Str) :: ("_law_ahead_word" : PySem.Str) :: ("_law_next_word" : PySem.Str) :: ("_law_is_sign" : PySem.Str) :: ("_law_is_goal" : PySem.Str) :: ("_law_read_quiz" : PySem.Str) :: ("_law_bent" : PySem.Str) :: ("_law_odd" : PySem.Str) :: ("_law_lacking" : PySem.Str) :: ("_law_told" : PySem.Str) :: ("_law_quiz_read" : PySem.Str) :: ("_law_due" : PySem.Str) :: ("_law_right" : PySem.Str) :: []
theorem run (w : World) : HandSHeadRun.RunEq R (PySem.W.view R.prog [64]) hk ob 5000 nm w := by
  intro os
  kernel_rfl
theorem facts {P : Program} {w : World} {K : PySem.W.Frag} {h : Heap} {mg : Str → Option Value} {f : Addr} (X : K.In h) (G : h.Ns mainGlobals mg) (hfa : mg ("law" : Str) = some (.ref f)) (c : He.SaysD fa fn K) (xx : ex K = true) (pp : Prp.SaysP prs K) :
    ∃ fd : FuncData, (∀ (s : Shared) (v : Value), BindsTo s fd ⟨[v], []⟩ [("_law_script", v)]) ∧ ∀ base : Heap, K.In base → base.Ns mainGlobals mg → Ga.FnG P w K mg base CX0 11 f fd ["_law_script"] (spLaw K) := by
  obtain ⟨fd_InvalidTest___init__, F_InvalidTest___init__⟩ := c.def_ 0 (d := d0) rfl
  obtain ⟨fd_NotAStore___init__, F_NotAStore___init__⟩ := c.def_ 1 (d := d1) rfl
  obtain ⟨fd_UnknownName___init__, F_UnknownName___init__⟩ := c.def_ 2 (d := d2) rfl
  obtain ⟨fd_is_whole, F_is_whole⟩ := c.def_ 3 (d := d3) rfl
  obtain ⟨fd_is_between, F_is_between⟩ := c.def_ 4 (d := d4) rfl
  obtain ⟨fd_is_place, F_is_place⟩ := c.def_ 5 (d := d5) rfl
  obtain ⟨fd_is_letter, F_is_letter⟩ := c.def_ 6 (d := d6) rfl
  obtain ⟨fd_is_pair, F_is_pair⟩ := c.def_ 7 (d := d7) rfl
  obtain ⟨fd_are_name_pairs, F_are_name_pairs⟩ := c.def_ 8 (d := d8) rfl
  obtain ⟨fd_check_cells, F_check_cells⟩ := c.def_ 9 (d := d9) rfl
  obtain ⟨fd_Store___init__, F_Store___init__⟩ := c.def_ 10 (d := d10) rfl
  obtain ⟨fd_check_store, F_check_store⟩ := c.def_ 11 (d := d11) rfl
  obtain ⟨fd_Heap___init__, F_Heap___init__⟩ := c.def_ 12 (d := d12) rfl
  obtain ⟨fd_Heap_place_of, F_Heap_place_of⟩ := c.def_ 13 (d := d13) rfl
  obtain ⟨fd_Heap_is_same, F_Heap_is_same⟩ := c.def_ 14 (d := d14) rfl
  obtain ⟨fd_Heap_holds, F_Heap_holds⟩ := c.def_ 15 (d := d15) rfl
  obtain ⟨fd_heap_of, F_heap_of⟩ := c.def_ 16 (d := d16) rfl
  obtain ⟨fd_is_goal, F_is_goal⟩ := c.def_ 17 (d := d17) rfl
  obtain ⟨fd_Words___init__, F_Words___init__⟩ := c.def_ 18 (d := d18) rfl
  obtain ⟨fd_Words_peek, F_Words_peek⟩ := c.def_ 19 (d := d19) rfl
  obtain ⟨fd_Words_take, F_Words_take⟩ := c.def_ 20 (d := d20) rfl
  obtain ⟨fd_Words_is_over, F_Words_is_over⟩ := c.def_ 21 (d := d21) rfl
  obtain ⟨fd_split_words, F_split_words⟩ := c.def_ 22 (d := d22) rfl
  obtain ⟨fd_read_comparison, F_read_comparison⟩ := c.def_ 23 (d := d23) rfl
  obtain ⟨fd_read_test, F_read_test⟩ := c.def_ 24 (d := d24) rfl
  obtain ⟨fd_test_of, F_test_of⟩ := c.def_ 25 (d := d25) rfl
  obtain ⟨fd_test_tree, F_test_tree⟩ := c.def_ 26 (d := d26) rfl
  obtain ⟨fd_test_letters, F_test_letters⟩ := c.def_ 27 (d := d27) rfl
  obtain ⟨fd_check_known, F_check_known⟩ := c.def_ 28 (d := d28) rfl
  obtain ⟨fd_holds, F_holds⟩ := c.def_ 29 (d := d29) rfl
  obtain ⟨fd__law_well, F__law_well⟩ := c.def_ 30 (d := d30) rfl
  obtain ⟨fd__law_take, F__law_take⟩ := c.def_ 31 (d := d31) rfl
  obtain ⟨fd__law_pick, F__law_pick⟩ := c.def_ 32 (d := d32) rfl
  obtain ⟨fd__law_drawn, F__law_drawn⟩ := c.def_ 33 (d := d33) rfl
  obtain ⟨fd__law_store, F__law_store⟩ := c.def_ 34 (d := d34) rfl
  obtain ⟨fd__law_shown, F__law_shown⟩ := c.def_ 35 (d := d35) rfl
  obtain ⟨fd__law_is_so, F__law_is_so⟩ := c.def_ 36 (d := d36) rfl
  obtain ⟨fd__law_quiz, F__law_quiz⟩ := c.def_ 37 (d := d37) rfl
  obtain ⟨fd__law_quiz_said, F__law_quiz_said⟩ := c.def_ 38 (d := d38) rfl
  obtain ⟨fd__law_ahead_word, F__law_ahead_word⟩ := c.def_ 39 (d := d39) rfl
  obtain ⟨fd__law_next_word, F__law_next_word⟩ := c.def_ 40 (d := d40) rfl
  obtain ⟨fd__law_is_sign, F__law_is_sign⟩ := c.def_ 41 (d := d41) rfl
  obtain ⟨fd__law_is_goal, F__law_is_goal⟩ := c.def_ 42 (d := d42) rfl
  obtain ⟨fd__law_read_quiz, F__law_read_quiz⟩ := c.def_ 43 (d := d43) rfl
  obtain ⟨fd__law_bent, F__law_bent⟩ := c.def_ 44 (d := d44) rfl
  obtain ⟨fd__law_odd, F__law_odd⟩ := c.def_ 45 (d := d45) rfl
  obtain ⟨fd__law_lacking, F__law_lacking⟩ := c.def_ 46 (d := d46) rfl
  obtain ⟨fd__law_told, F__law_told⟩ := c.def_ 47 (d := d47) rfl
  obtain ⟨fd__law_quiz_read, F__law_quiz_read⟩ := c.def_ 48 (d := d48) rfl
  obtain ⟨fd__law_due, F__law_due⟩ := c.def_ 49 (d := d49) rfl
  obtain ⟨fd__law_right, F__law_right⟩ := c.def_ 50 (d := d50) rfl
  obtain ⟨fd_law, F_law⟩ := c.def_ 51 (d := d51) rfl
  obtain ⟨P_Store_text, fd_Store_text, F_Store_text⟩ := pp.at 0 (p := prs[0]) rfl
  have g_InvalidTest := He.glo_ok X G (c.fact 0 (f := .glo "InvalidTest") rfl)
  have g_NotAStore := He.glo_ok X G (c.fact 1 (f := .glo "NotAStore") rfl)
  have g_UnknownName := He.glo_ok X G (c.fact 2 (f := .glo "UnknownName") rfl)
  have g_is_whole := He.glo_ok X G (c.fact 3 (f := .glo "is_whole") rfl)
  have g_is_between := He.glo_ok X G (c.fact 4 (f := .glo "is_between") rfl)
  have g_is_place := He.glo_ok X G (c.fact 5 (f := .glo "is_place") rfl)
  have g_is_letter := He.glo_ok X G (c.fact 6 (f := .glo "is_letter") rfl)
  have g_is_pair := He.glo_ok X G (c.fact 7 (f := .glo "is_pair") rfl)
  have g_are_name_pairs := He.glo_ok X G (c.fact 8 (f := .glo "are_name_pairs") rfl)
  have g_check_cells := He.glo_ok X G (c.fact 9 (f := .glo "check_cells") rfl)
  have g_Store := He.glo_ok X G (c.fact 10 (f := .glo "Store") rfl)
  have g_check_store := He.glo_ok X G (c.fact 11 (f := .glo "check_store") rfl)
  have g_Heap := He.glo_ok X G (c.fact 12 (f := .glo "Heap") rfl)
  have g_heap_of := He.glo_ok X G (c.fact 13 (f := .glo "heap_of") rfl)
  have g_is_goal := He.glo_ok X G (c.fact 14 (f := .glo "is_goal") rfl)
  have g_Words := He.glo_ok X G (c.fact 15 (f := .glo "Words") rfl)
  have g_split_words := He.glo_ok X G (c.fact 16 (f := .glo "split_words") rfl)
  have g_read_comparison := He.glo_ok X G (c.fact 17 (f := .glo "read_comparison") rfl)
  have g_read_test := He.glo_ok X G (c.fact 18 (f := .glo "read_test") rfl)
  have g_test_of := He.glo_ok X G (c.fact 19 (f := .glo "test_of") rfl)
  have g_test_tree := He.glo_ok X G (c.fact 20 (f := .glo "test_tree") rfl)
  have g_test_letters := He.glo_ok X G (c.fact 21 (f := .glo "test_letters") rfl)
  have g_check_known := He.glo_ok X G (c.fact 22 (f := .glo "check_known") rfl)
  have g_holds := He.glo_ok X G (c.fact 23 (f := .glo "holds") rfl)
  have g__law_well := He.glo_ok X G (c.fact 24 (f := .glo "_law_well") rfl)
  have g__law_take := He.glo_ok X G (c.fact 25 (f := .glo "_law_take") rfl)
  have g__law_pick := He.glo_ok X G (c.fact 26 (f := .glo "_law_pick") rfl)
  have g__law_drawn := He.glo_ok X G (c.fact 27 (f := .glo "_law_drawn") rfl)
  have g__law_store := He.glo_ok X G (c.fact 28 (f := .glo "_law_store") rfl)
  have g__law_shown := He.glo_ok X G (c.fact 29 (f := .glo "_law_shown") rfl)
  have g__law_is_so := He.glo_ok X G (c.fact 30 (f := .glo "_law_is_so") rfl)
  have g__law_quiz := He.glo_ok X G (c.fact 31 (f := .glo "_law_quiz") rfl)
  have g__law_quiz_said := He.glo_ok X G (c.fact 32 (f := .glo "_law_quiz_said") rfl)
  have g__law_ahead_word := He.glo_ok X G (c.fact 33 (f := .glo "_law_ahead_word") rfl)
  have g__law_next_word := He.glo_ok X G (c.fact 34 (f := .glo "_law_next_word") rfl)
  have g__law_is_sign := He.glo_ok X G (c.fact 35 (f := .glo "_law_is_sign") rfl)
  have g__law_is_goal := He.glo_ok X G (c.fact 36 (f := .glo "_law_is_goal") rfl)
  have g__law_read_quiz := He.glo_ok X G (c.fact 37 (f := .glo "_law_read_quiz") rfl)
  have g__law_bent := He.glo_ok X G (c.fact 38 (f := .glo "_law_bent") rfl)
  have g__law_odd := He.glo_ok X G (c.fact 39 (f := .glo "_law_odd") rfl)
  have g__law_lacking := He.glo_ok X G (c.fact 40 (f := .glo "_law_lacking") rfl)
  have g__law_told := He.glo_ok X G (c.fact 41 (f := .glo "_law_told") rfl)
  have g__law_quiz_read := He.glo_ok X G (c.fact 42 (f := .glo "_law_quiz_read") rfl)
  have g__law_due := He.glo_ok X G (c.fact 43 (f := .glo "_law_due") rfl)
  have g__law_right := He.glo_ok X G (c.fact 44 (f := .glo "_law_right") rfl)
  have g_law := He.glo_ok X G (c.fact 45 (f := .glo "law") rfl)
  have g_ArrowError := He.glo_ok X G (c.fact 46 (f := .glo "ArrowError") rfl)
  have b_len := He.free_ok X G (c.fact 47 (f := .free "len") rfl)
  have b_int := He.free_ok X G (c.fact 48 (f := .free "int") rfl)
  have b_isinstance := He.free_ok X G (c.fact 49 (f := .free "isinstance") rfl)
  have b_abs := He.free_ok X G (c.fact 50 (f := .free "abs") rfl)
  have b_divmod := He.free_ok X G (c.fact 51 (f := .free "divmod") rfl)
  have b_range := He.free_ok X G (c.fact 52 (f := .free "range") rfl)
  have b_max := He.free_ok X G (c.fact 53 (f := .free "max") rfl)
  have b_min := He.free_ok X G (c.fact 54 (f := .free "min") rfl)
  have b_repr := He.free_ok X G (c.fact 55 (f := .free "repr") rfl)
  have b_all := He.free_ok X G (c.fact 56 (f := .free "all") rfl)
  have b_list := He.free_ok X G (c.fact 57 (f := .free "list") rfl)
  have b_tuple := He.free_ok X G (c.fact 58 (f := .free "tuple") rfl)
  have b_str := He.free_ok X G (c.fact 59 (f := .free "str") rfl)
  have b_sum := He.free_ok X G (c.fact 60 (f := .free "sum") rfl)
  have b_bool := He.free_ok X G (c.fact 61 (f := .free "bool") rfl)
  have b_dict := He.free_ok X G (c.fact 62 (f := .free "dict") rfl)
  have b_enumerate := He.free_ok X G (c.fact 63 (f := .free "enumerate") rfl)
  have b_sorted := He.free_ok X G (c.fact 64 (f := .free "sorted") rfl)
  have b_set := He.free_ok X G (c.fact 65 (f := .free "set") rfl)
  have b_any := He.free_ok X G (c.fact 66 (f := .free "any") rfl)
  have i_END := He.int_ok X G (c.fact 67 (f := .int "END" (0)) rfl)
  have i_MOST_PLACE := He.int_ok X G (c.fact 68 (f := .int "MOST_PLACE" (999)) rfl)
  have i_MOST_CELLS := He.int_ok X G (c.fact 69 (f := .int "MOST_CELLS" (500)) rfl)
  have i_MOST_NAMES := He.int_ok X G (c.fact 70 (f := .int "MOST_NAMES" (4)) rfl)
  have i_MOST_COMPARISONS := He.int_ok X G (c.fact 71 (f := .int "MOST_COMPARISONS" (3)) rfl)
  have i_LETTERS := He.str_ok X G (c.fact 72 (f := .str "LETTERS" abc) rfl)
  have z_cls := He.cls_ok (c.fact 73 (f := .cls "Store") rfl)
  have z_n := He.noat_ok (c.fact 74 (f := .noat "Store" "names") rfl)
  have z_c := He.noat_ok (c.fact 75 (f := .noat "Store" "cells") rfl)
  have z_p := He.noat_ok (c.fact 76 (f := .noat "Store" "places") rfl)
  have z_a := He.noat_ok (c.fact 77 (f := .noat "Store" "arrows") rfl)
  have z_l := He.noat_ok (c.fact 78 (f := .noat "Store" "letters") rfl)
  have z_mk := He.mkr_ok (c.fact 79 (f := .mkr "Store") rfl)
  have h_cls := He.cls_ok (c.fact 80 (f := .cls "Heap") rfl)
  have h_n := He.noat_ok (c.fact 81 (f := .noat "Heap" "names") rfl)
  have h_c := He.noat_ok (c.fact 82 (f := .noat "Heap" "cells") rfl)
  have h_u := He.noat_ok (c.fact 83 (f := .noat "Heap" "used") rfl)
  have h_m := He.noat_ok (c.fact 84 (f := .noat "Heap" "made") rfl)
  have h_mk := He.mkr_ok (c.fact 85 (f := .mkr "Heap") rfl)
  have h_pof := He.meth_ok (c.fact 86 (f := .meth "Heap" "place_of") rfl)
  have h_isn := He.meth_ok (c.fact 87 (f := .meth "Heap" "is_same") rfl)
  have h_hol := He.meth_ok (c.fact 88 (f := .meth "Heap" "holds") rfl)
  have w_cls := He.cls_ok (c.fact 89 (f := .cls "Words") rfl)
  have w_w := He.noat_ok (c.fact 90 (f := .noat "Words" "words") rfl)
  have w_a := He.noat_ok (c.fact 91 (f := .noat "Words" "at") rfl)
  have w_mk := He.mkr_ok (c.fact 92 (f := .mkr "Words") rfl)
  have w_peek := He.meth_ok (c.fact 93 (f := .meth "Words" "peek") rfl)
  have w_take := He.meth_ok (c.fact 94 (f := .meth "Words" "take") rfl)
  have w_over := He.meth_ok (c.fact 95 (f := .meth "Words" "is_over") rfl)
  have k_InvalidTest___init__ : Binds K fd_InvalidTest___init__ ["self", "given"] [] := F_InvalidTest___init__.bindsN fun _ _ _ _ _ _ us hl => match us, hl with | [_, _], _ => rfl
  have k_NotAStore___init__ : Binds K fd_NotAStore___init__ ["self", "given"] [] := F_NotAStore___init__.bindsN fun _ _ _ _ _ _ us hl => match us, hl with | [_, _], _ => rfl
  have k_UnknownName___init__ : Binds K fd_UnknownName___init__ ["self", "given"] [] := F_UnknownName___init__.bindsN fun _ _ _ _ _ _ us hl => match us, hl with | [_, _], _ => rfl
  have k_is_whole : Binds K fd_is_whole ["value"] [] := F_is_whole.bindsN fun _ _ _ _ _ _ us hl => match us, hl with | [_], _ => rfl
  have k_is_between : Binds K fd_is_between ["value", "low", "high"] [] := F_is_between.bindsN fun _ _ _ _ _ _ us hl => match us, hl with | [_, _, _], _ => rfl
  have k_is_place : Binds K fd_is_place ["value"] [] := F_is_place.bindsN fun _ _ _ _ _ _ us hl => match us, hl with | [_], _ => rfl
  have k_is_letter : Binds K fd_is_letter ["value"] [] := F_is_letter.bindsN fun _ _ _ _ _ _ us hl => match us, hl with | [_], _ => rfl
  have k_is_pair : Binds K fd_is_pair ["value"] [] := F_is_pair.bindsN fun _ _ _ _ _ _ us hl => match us, hl with | [_], _ => rfl
  have k_are_name_pairs : Binds K fd_are_name_pairs ["value"] [] := F_are_name_pairs.bindsN fun _ _ _ _ _ _ us hl => match us, hl with | [_], _ => rfl
  have k_check_cells : Binds K fd_check_cells ["value"] [] := F_check_cells.bindsN fun _ _ _ _ _ _ us hl => match us, hl with | [_], _ => rfl
  have k_Store___init__ : Binds K fd_Store___init__ ["self", "names", "cells"] [] := F_Store___init__.bindsN fun _ _ _ _ _ _ us hl => match us, hl with | [_, _, _], _ => rfl
  have k_check_store : Binds K fd_check_store ["value"] [] := F_check_store.bindsN fun _ _ _ _ _ _ us hl => match us, hl with | [_], _ => rfl
  have k_Heap___init__ : Binds K fd_Heap___init__ ["self", "names", "cells"] [] := F_Heap___init__.bindsN fun _ _ _ _ _ _ us hl => match us, hl with | [_, _, _], _ => rfl
  have k_Heap_place_of : Binds K fd_Heap_place_of ["self", "word"] [] := F_Heap_place_of.bindsN fun _ _ _ _ _ _ us hl => match us, hl with | [_, _], _ => rfl
  have k_Heap_is_same : Binds K fd_Heap_is_same ["self", "one", "other"] [] := F_Heap_is_same.bindsN fun _ _ _ _ _ _ us hl => match us, hl with | [_, _, _], _ => rfl
  have k_Heap_holds : Binds K fd_Heap_holds ["self", "test"] [] := F_Heap_holds.bindsN fun _ _ _ _ _ _ us hl => match us, hl with | [_, _], _ => rfl
  have k_heap_of : Binds K fd_heap_of ["store", "helpers"] [] := F_heap_of.bindsN fun _ _ _ _ _ _ us hl => match us, hl with | [_, _], _ => rfl
  have k_is_goal : Binds K fd_is_goal ["value"] [] := F_is_goal.bindsN fun _ _ _ _ _ _ us hl => match us, hl with | [_], _ => rfl
  have k_Words___init__ : Binds K fd_Words___init__ ["self", "words"] [] := F_Words___init__.bindsN fun _ _ _ _ _ _ us hl => match us, hl with | [_, _], _ => rfl
  have k_Words_peek : Binds K fd_Words_peek ["self"] [] := F_Words_peek.bindsN fun _ _ _ _ _ _ us hl => match us, hl with | [_], _ => rfl
  have k_Words_take : Binds K fd_Words_take ["self"] [] := F_Words_take.bindsN fun _ _ _ _ _ _ us hl => match us, hl with | [_], _ => rfl
  have k_Words_is_over : Binds K fd_Words_is_over ["self"] [] := F_Words_is_over.bindsN fun _ _ _ _ _ _ us hl => match us, hl with | [_], _ => rfl
  have k_split_words : Binds K fd_split_words ["text"] [] := F_split_words.bindsN fun _ _ _ _ _ _ us hl => match us, hl with | [_], _ => rfl
  have k_read_comparison : Binds K fd_read_comparison ["words"] [] := F_read_comparison.bindsN fun _ _ _ _ _ _ us hl => match us, hl with | [_], _ => rfl
  have k_read_test : Binds K fd_read_test ["words"] [] := F_read_test.bindsN fun _ _ _ _ _ _ us hl => match us, hl with | [_], _ => rfl
  have k_test_of : Binds K fd_test_of ["value"] [] := F_test_of.bindsN fun _ _ _ _ _ _ us hl => match us, hl with | [_], _ => rfl
  have k_test_tree : Binds K fd_test_tree ["test"] [] := F_test_tree.bindsN fun _ _ _ _ _ _ us hl => match us, hl with | [_], _ => rfl
  have k_test_letters : Binds K fd_test_letters ["tree"] [] := F_test_letters.bindsN fun _ _ _ _ _ _ us hl => match us, hl with | [_], _ => rfl
  have k_check_known : Binds K fd_check_known ["letters", "known"] [] := F_check_known.bindsN fun _ _ _ _ _ _ us hl => match us, hl with | [_, _], _ => rfl
  have k_holds : Binds K fd_holds ["test", "store"] [] := F_holds.bindsN fun _ _ _ _ _ _ us hl => match us, hl with | [_, _], _ => rfl
  have k__law_well : Binds K fd__law_well ["_law_script", "_law_turn"] [] := F__law_well.bindsN fun _ _ _ _ _ _ us hl => match us, hl with | [_, _], _ => rfl
  have k__law_take : Binds K fd__law_take ["_law_well_here", "_law_limit"] [] := F__law_take.bindsN fun _ _ _ _ _ _ us hl => match us, hl with | [_, _], _ => rfl
  have k__law_pick : Binds K fd__law_pick ["_law_well_here", "_law_some"] [] := F__law_pick.bindsN fun _ _ _ _ _ _ us hl => match us, hl with | [_, _], _ => rfl
  have k__law_drawn : Binds K fd__law_drawn ["_law_well_here", "_law_signs", "_law_limit"] [] := F__law_drawn.bindsN fun _ _ _ _ _ _ us hl => match us, hl with | [_, _, _], _ => rfl
  have k__law_store : Binds K fd__law_store ["_law_mine"] [] := F__law_store.bindsN fun _ _ _ _ _ _ us hl => match us, hl with | [_], _ => rfl
  have k__law_shown : Binds K fd__law_shown ["_law_mine"] [] := F__law_shown.bindsN fun _ _ _ _ _ _ us hl => match us, hl with | [_], _ => rfl
  have k__law_is_so : Binds K fd__law_is_so ["_law_homes", "_law_quiz_here"] [] := F__law_is_so.bindsN fun _ _ _ _ _ _ us hl => match us, hl with | [_, _], _ => rfl
  have k__law_quiz : Binds K fd__law_quiz ["_law_well_here", "_law_signs"] [] := F__law_quiz.bindsN fun _ _ _ _ _ _ us hl => match us, hl with | [_, _], _ => rfl
  have k__law_quiz_said : Binds K fd__law_quiz_said ["_law_quiz_here"] [] := F__law_quiz_said.bindsN fun _ _ _ _ _ _ us hl => match us, hl with | [_], _ => rfl
  have k__law_ahead_word : Binds K fd__law_ahead_word ["_law_reader"] [] := F__law_ahead_word.bindsN fun _ _ _ _ _ _ us hl => match us, hl with | [_], _ => rfl
  have k__law_next_word : Binds K fd__law_next_word ["_law_reader"] [] := F__law_next_word.bindsN fun _ _ _ _ _ _ us hl => match us, hl with | [_], _ => rfl
  have k__law_is_sign : Binds K fd__law_is_sign ["_law_token"] [] := F__law_is_sign.bindsN fun _ _ _ _ _ _ us hl => match us, hl with | [_], _ => rfl
  have k__law_is_goal : Binds K fd__law_is_goal ["_law_token"] [] := F__law_is_goal.bindsN fun _ _ _ _ _ _ us hl => match us, hl with | [_], _ => rfl
  have k__law_read_quiz : Binds K fd__law_read_quiz ["_law_reader"] [] := F__law_read_quiz.bindsN fun _ _ _ _ _ _ us hl => match us, hl with | [_], _ => rfl
  have k__law_bent : Binds K fd__law_bent ["_law_well_here", "_law_said"] [] := F__law_bent.bindsN fun _ _ _ _ _ _ us hl => match us, hl with | [_, _], _ => rfl
  have k__law_odd : Binds K fd__law_odd ["_law_well_here"] [] := F__law_odd.bindsN fun _ _ _ _ _ _ us hl => match us, hl with | [_], _ => rfl
  have k__law_lacking : Binds K fd__law_lacking ["_law_homes", "_law_some"] [] := F__law_lacking.bindsN fun _ _ _ _ _ _ us hl => match us, hl with | [_, _], _ => rfl
  have k__law_told : Binds K fd__law_told ["_law_first", "_law_second", "_law_is_named"] [] := F__law_told.bindsN fun _ _ _ _ _ _ us hl => match us, hl with | [_, _, _], _ => rfl
  have k__law_quiz_read : Binds K fd__law_quiz_read ["_law_said"] [] := F__law_quiz_read.bindsN fun _ _ _ _ _ _ us hl => match us, hl with | [_], _ => rfl
  have k__law_due : Binds K fd__law_due ["_law_mine", "_law_quiz_here"] [] := F__law_due.bindsN fun _ _ _ _ _ _ us hl => match us, hl with | [_, _], _ => rfl
  have k__law_right : Binds K fd__law_right ["_law_well_here"] [] := F__law_right.bindsN fun _ _ _ _ _ _ us hl => match us, hl with | [_], _ => rfl
  have k_law : Binds K fd_law ["_law_script"] [] := F_law.bindsN fun _ _ _ _ _ _ us hl => match us, hl with | [_], _ => rfl
  have k_Store_text : Binds K fd_Store_text ["self"] [] := F_Store_text.bindsN fun _ _ _ _ _ _ us hl => match us, hl with | [_], _ => rfl
  have e_law := hfa.symm.trans g_law
  cases e_law
  have bA := FunD.bindsA (ps := ["_law_script"]) F_law fun _ _ _ _ _ _ us hl => match us, hl with | [_], _ => rfl
  simp only [ex, Bool.and_eq_true, decide_eq_true_eq] at xx
  obtain ⟨x1, x2, xt, xn, xu, xN, m1, m2, m3, m4⟩ := xx
  have T : Tx mg := ⟨b_len, b_int, b_isinstance, b_abs, b_divmod, b_range, b_max, b_min, b_repr, b_all, b_list, b_tuple, b_str, b_sum, i_LETTERS, i_MOST_COMPARISONS⟩
  have TS : K40S.Tx mg := ⟨b_len, b_int, b_isinstance, b_abs, b_divmod, b_range, b_max, b_min, b_repr, b_all, b_list, b_tuple, b_str, b_bool, b_dict, b_enumerate, b_sorted, b_sum, b_set, i_LETTERS, i_END, i_MOST_PLACE, i_MOST_CELLS, i_MOST_NAMES⟩
  have TH : Th mg := ⟨TS, b_any, b_all, b_sorted, b_isinstance, b_repr, b_list, b_tuple, b_str, b_len, b_range, b_int, b_dict, i_END⟩
  have S := Sm.sysB_ok x1
  obtain ⟨te1, te2, te3, te4, te5, te6, te7⟩ := Exx.erB_ok xt
  have Rt : ErI K mg (He.ga K "InvalidTest") (He.ma K (He.ga K "InvalidTest") "__init__") fd_InvalidTest___init__ := ⟨g_InvalidTest, te1, te2, te3, te4, by decide, by decide, ⟨_, _, _, _, _, _, _, F_InvalidTest___init__, ⟨rfl, rfl, rfl, by decide +kernel, rfl, by decide +kernel, by decide +kernel⟩⟩, k_InvalidTest___init__⟩
  obtain ⟨ne1, ne2, ne3, ne4, ne5, ne6, ne7⟩ := Exx.erB_ok xn
  have Rn : ErS K mg (He.ga K "NotAStore") (He.ma K (He.ga K "NotAStore") "__init__") fd_NotAStore___init__ := ⟨g_NotAStore, ne1, ne2, ne3, ne4, by decide, by decide, ⟨_, _, _, _, _, _, _, F_NotAStore___init__, ⟨rfl, rfl, rfl, by decide +kernel, rfl, by decide +kernel, by decide +kernel⟩⟩, k_NotAStore___init__⟩
  obtain ⟨ue1, ue2, ue3, ue4, ue5, ue6, ue7⟩ := Exx.erB_ok xu
  have Ru : ErU K mg (He.ga K "UnknownName") (He.ma K (He.ga K "UnknownName") "__init__") fd_UnknownName___init__ := ⟨g_UnknownName, ue1, ue2, ue3, ue4, by decide, by decide, ⟨_, _, _, _, _, _, _, F_UnknownName___init__, ⟨rfl, rfl, rfl, by decide +kernel, rfl, by decide +kernel, by decide +kernel⟩⟩, k_UnknownName___init__⟩
  have EM : Exm K (He.ga K "InvalidTest") (He.ga K "NotAStore") (He.ga K "UnknownName") (He.ga K "ArrowError") := ⟨te7, m1, ne7, m2, m3, ue7, m4⟩
  have NS : NoS K (He.ga K "Store") := fun t ht => of_decide_eq_true (List.all_eq_true.mp xN t ht)
  have W : K40S.StB K (He.ga K "Store") := ⟨z_cls, z_n, z_c, z_p, z_a, z_l⟩
  have L : K40S.StM K mg (He.ga K "Store") (He.ma K (He.ga K "Store") "__init__") := ⟨Lo.ownB_ok x2 z_cls, z_mk, g_Store⟩
  have HB : K40S.HpB K (He.ga K "Heap") := ⟨h_cls, h_n, h_c, h_u, h_m⟩
  have HL : HpK K mg (He.ga K "Heap") (He.ma K (He.ga K "Heap") "__init__") := ⟨h_mk, g_Heap⟩
  have B : WdB K (He.ga K "Words") := ⟨w_cls, w_w, w_a⟩
  have Gp := fun (base : Heap) => (ok_peek T B F_Words_peek : FnOk P w K mg base CX0 1 _ _ ["self"] (spPeek (He.ga K "Words")))
  have Wp := fun (base : Heap) => (⟨w_cls, w_peek, k_Words_peek, Gp base⟩ : WdP P w K mg base (He.ga K "Words") _ _)
  have Wd := fun (base : Heap) => (⟨w_cls, w_w, w_a, g_Words, w_mk, w_peek, w_take, w_over, k_Words___init__, k_Words_peek, k_Words_take, k_Words_is_over, ok_init B F_Words___init__, Gp base, ok_takeW T B (Wp base) F_Words_take, ok_over T B F_Words_is_over⟩ : WdT P w K mg base (He.ga K "Words") _ _ _ _ _ _ _ _)
  have C_is_letter := fun (base : Heap) => (⟨g_is_letter, F_is_letter.kp, k_is_letter, ok_letter T F_is_letter⟩ : Cal P w K mg base CX0 1 "is_letter" _ (spData isLetter K) _ _)
  have C__law_is_sign := fun (base : Heap) => (⟨g__law_is_sign, F__law_is_sign.kp, k__law_is_sign, ok_sign T F__law_is_sign⟩ : Cal P w K mg base CX0 1 "_law_is_sign" _ (spData isLetter K) _ _)
  have C_is_goal := fun (base : Heap) => (⟨g_is_goal, F_is_goal.kp, k_is_goal, ok_goal T F_is_goal (C_is_letter base)⟩ : Cal P w K mg base CX0 2 "is_goal" _ (spData isGoal K) _ _)
  have C__law_is_goal := fun (base : Heap) => (⟨g__law_is_goal, F__law_is_goal.kp, k__law_is_goal, ok_goal2 T F__law_is_goal (C__law_is_sign base)⟩ : Cal P w K mg base CX0 2 "_law_is_goal" _ (spData isGoal K) _ _)
  have C_split_words := fun (base : Heap) => (⟨g_split_words, F_split_words.kp, k_split_words, ok_split T F_split_words⟩ : Cal P w K mg base CX0 1 "split_words" _ spSplit _ _)
  have C_read_comparison := fun (base : Heap) => (⟨g_read_comparison, F_read_comparison.kp, k_read_comparison, ok_rc T (Wd base) F_read_comparison (C_is_letter base) (C_is_goal base)⟩ : Cal P w K mg base CX0 3 "read_comparison" _ (spCompG K (He.ga K "Words")) _ _)
  have C_read_test := fun (base : Heap) => (⟨g_read_test, F_read_test.kp, k_read_test, ok_rt T (Wd base) F_read_test (C_read_comparison base)⟩ : Cal P w K mg base CX0 4 "read_test" _ (spTestG K (He.ga K "Words")) _ _)
  have C_test_of := fun (base : Heap) => (⟨g_test_of, F_test_of.kp, k_test_of, ok_to T (Wd base) F_test_of (C_split_words base) (C_read_test base)⟩ : Cal P w K mg base CX0 5 "test_of" _ (spTestOf K) _ _)
  have C_test_tree := fun (base : Heap) => (⟨g_test_tree, F_test_tree.kp, k_test_tree, ok_tt Rt F_test_tree (C_test_of base)⟩ : Cal P w K mg base (L2.CX P w) 6 "test_tree" _ (spTT K (He.ga K "InvalidTest")) _ _)
  have C_test_letters := fun (base : Heap) => (⟨g_test_letters, F_test_letters.kp, k_test_letters, ok_tl T b_sorted F_test_letters⟩ : Cal P w K mg base CX0 1 "test_letters" _ (spTL K) _ _)
  have C_is_whole := fun (base : Heap) => (⟨g_is_whole, F_is_whole.kp, k_is_whole, K40S.ok_whole TS F_is_whole⟩ : Cal P w K mg base CX0 1 "is_whole" _ K40S.spWhole _ _)
  have C_is_between := fun (base : Heap) => (⟨g_is_between, F_is_between.kp, k_is_between, K40S.ok_between TS F_is_between (C_is_whole base)⟩ : Cal P w K mg base CX0 2 "is_between" _ K40S.spBetween _ _)
  have C_is_place := fun (base : Heap) => (⟨g_is_place, F_is_place.kp, k_is_place, K40S.ok_place TS F_is_place (C_is_between base)⟩ : Cal P w K mg base CX0 3 "is_place" _ K40S.spPlace _ _)
  have C_sletter := fun (base : Heap) => (⟨g_is_letter, F_is_letter.kp, k_is_letter, K40S.ok_letter TS F_is_letter⟩ : Cal P w K mg base CX0 1 "is_letter" _ K40S.spLetter _ _)
  have C_is_pair := fun (base : Heap) => (⟨g_is_pair, F_is_pair.kp, k_is_pair, K40S.ok_pair TS F_is_pair⟩ : Cal P w K mg base CX0 1 "is_pair" _ (K40S.spPair K) _ _)
  have C_are_name_pairs := fun (base : Heap) => (⟨g_are_name_pairs, F_are_name_pairs.kp, k_are_name_pairs, K40S.ok_nm TS F_are_name_pairs (C_is_pair base) (C_sletter base) (C_is_place base)⟩ : Cal P w K mg base CX0 4 "are_name_pairs" _ (K40S.spNames K) _ _)
  have C_check_cells := fun (base : Heap) => (⟨g_check_cells, F_check_cells.kp, k_check_cells, K40S.ok_cl TS F_check_cells (C_is_pair base) (C_is_place base)⟩ : Cal P w K mg base CX0 4 "check_cells" _ (K40S.spCells K) _ _)
  have FI := fun (base : Heap) => (K40S.ok_in TS W F_Store___init__ (C_are_name_pairs base) (C_check_cells base) : FnOk P w K mg base CX0 5 _ _ ["self", "names", "cells"] (K40S.spInit K (He.ga K "Store")))
  have PT := fun (base : Heap) => (⟨P_Store_text, k_Store_text, K40S.ok_tx TS W F_Store_text⟩ : Prp.PrC P w K mg base 1 (He.ga K "Store") "text" (K40S.spText K (He.ga K "Store")) _ _ _)
  have FH := fun (base : Heap) => (K40S.ok_hin TS HB F_Heap___init__ : FnOk P w K mg base CX0 1 _ _ ["self", "names", "cells"] (K40S.spHI K (He.ga K "Heap")))
  have M1 := fun (base : Heap) => (⟨⟨h_pof, ok_po TH HB F_Heap_place_of, k_Heap_place_of⟩⟩ : HpM P w K mg base (He.ga K "Heap") _ _)
  have M2 := fun (base : Heap) => (⟨⟨h_isn, ok_is TH HB (M1 base) F_Heap_is_same, k_Heap_is_same⟩⟩ : HpI P w K mg base (He.ga K "Heap") _ _)
  have M3 := fun (base : Heap) => (⟨h_cls, ⟨h_hol, ok_ho TH HB (M2 base) F_Heap_holds, k_Heap_holds⟩⟩ : HpH P w K mg base (He.ga K "Heap") _ _)
  have C_check_store := fun (base : Heap) => (⟨g_check_store, F_check_store.kp, k_check_store, ok_chk TH NS L Rn F_check_store⟩ : Cal P w K mg base (L2.CX P w) 3 "check_store" _ (spChkX K (He.ga K "Store") (He.ga K "NotAStore")) _ _)
  have C_check_known := fun (base : Heap) => (⟨g_check_known, F_check_known.kp, k_check_known, ok_ck TH Ru F_check_known⟩ : Cal P w K mg base (L2.CX P w) 3 "check_known" _ (spCK (He.ga K "UnknownName")) _ _)
  have C_heap_of := fun (base : Heap) => (⟨g_heap_of, F_heap_of.kp, k_heap_of, ok_hf TH W HL (FH base) k_Heap___init__ F_heap_of⟩ : Cal P w K mg base CX0 3 "heap_of" _ (spHf K (He.ga K "Store") (He.ga K "Heap")) _ _)
  have C_holds := fun (base : Heap) => (⟨g_holds, F_holds.kp, k_holds, ok_holds TH W HB (M3 base) F_holds (C_test_tree base) (C_check_store base) (C_check_known base) (C_test_letters base) (C_heap_of base)⟩ : Cal P w K mg base (L2.CX P w) 7 "holds" _ (spHolds K (He.ga K "Store") (He.ga K "InvalidTest") (He.ga K "NotAStore") (He.ga K "UnknownName")) _ _)
  have C__law_take := fun (base : Heap) => (⟨g__law_take, F__law_take.kp, k__law_take, ok_take T F__law_take⟩ : Cal P w K mg base CX0 1 "_law_take" _ spTake _ _)
  have C__law_pick := fun (base : Heap) => (⟨g__law_pick, F__law_pick.kp, k__law_pick, ok_pick T F__law_pick (C__law_take base)⟩ : Cal P w K mg base CX0 2 "_law_pick" _ spPick _ _)
  have C__law_well := fun (base : Heap) => (⟨g__law_well, F__law_well.kp, k__law_well, ok_well T F__law_well⟩ : Cal P w K mg base CX0 1 "_law_well" _ (spWell K) _ _)
  have C__law_drawn := fun (base : Heap) => (⟨g__law_drawn, F__law_drawn.kp, k__law_drawn, ok_drawn TH F__law_drawn (C__law_take base) (C__law_pick base)⟩ : Cal P w K mg base CX0 3 "_law_drawn" _ spDrawn _ _)
  have C__law_store := fun (base : Heap) => (⟨g__law_store, F__law_store.kp, k__law_store, K40S.ok_md TS L F__law_store (FI base) k_Store___init__⟩ : Cal P w K mg base CX0 7 "_law_store" _ (K40S.spMade K (He.ga K "Store")) _ _)
  have C__law_shown := fun (base : Heap) => (⟨g__law_shown, F__law_shown.kp, k__law_shown, K40S.ok_shn TS F__law_shown⟩ : Cal P w K mg base CX0 1 "_law_shown" _ K40S.spTxt _ _)
  have C__law_is_so := fun (base : Heap) => (⟨g__law_is_so, F__law_is_so.kp, k__law_is_so, ok_so TH F__law_is_so⟩ : Cal P w K mg base CX0 1 "_law_is_so" _ (spSo K) _ _)
  have C__law_lacking := fun (base : Heap) => (⟨g__law_lacking, F__law_lacking.kp, k__law_lacking, ok_lack TH F__law_lacking⟩ : Cal P w K mg base CX0 1 "_law_lacking" _ spLack _ _)
  have C__law_due := fun (base : Heap) => (⟨g__law_due, F__law_due.kp, k__law_due, ok_due TH F__law_due (C__law_lacking base) (C__law_is_so base)⟩ : Cal P w K mg base CX0 2 "_law_due" _ (spDue K) _ _)
  have C__law_quiz := fun (base : Heap) => (⟨g__law_quiz, F__law_quiz.kp, k__law_quiz, ok_qz T F__law_quiz (C__law_take base) (C__law_pick base)⟩ : Cal P w K mg base CX0 3 "_law_quiz" _ (spQuiz K) _ _)
  have C__law_quiz_said := fun (base : Heap) => (⟨g__law_quiz_said, F__law_quiz_said.kp, k__law_quiz_said, ok_qs T F__law_quiz_said⟩ : Cal P w K mg base CX0 1 "_law_quiz_said" _ (spText isTest testText K) _ _)
  have C__law_ahead_word := fun (base : Heap) => (⟨g__law_ahead_word, F__law_ahead_word.kp, k__law_ahead_word, ok_ah T F__law_ahead_word⟩ : Cal P w K mg base CX0 1 "_law_ahead_word" _ spAhead _ _)
  have C__law_next_word := fun (base : Heap) => (⟨g__law_next_word, F__law_next_word.kp, k__law_next_word, ok_nx T F__law_next_word (C__law_ahead_word base)⟩ : Cal P w K mg base CX0 2 "_law_next_word" _ spNext _ _)
  have C__law_read_quiz := fun (base : Heap) => (⟨g__law_read_quiz, F__law_read_quiz.kp, k__law_read_quiz, ok_rq T F__law_read_quiz (C__law_ahead_word base) (C__law_next_word base) (C__law_is_sign base) (C__law_is_goal base)⟩ : Cal P w K mg base CX0 3 "_law_read_quiz" _ (spLQ K) _ _)
  have C__law_quiz_read := fun (base : Heap) => (⟨g__law_quiz_read, F__law_quiz_read.kp, k__law_quiz_read, ok_qr T F__law_quiz_read (C__law_read_quiz base)⟩ : Cal P w K mg base CX0 4 "_law_quiz_read" _ (spQR K) _ _)
  have C__law_bent := fun (base : Heap) => (⟨g__law_bent, F__law_bent.kp, k__law_bent, ok_bent T F__law_bent (C__law_take base) (C__law_pick base)⟩ : Cal P w K mg base CX0 3 "_law_bent" _ (spBent K) _ _)
  have C__law_odd := fun (base : Heap) => (⟨g__law_odd, F__law_odd.kp, k__law_odd, ok_odd T F__law_odd (C__law_pick base)⟩ : Cal P w K mg base CX0 3 "_law_odd" _ (spOdd K) _ _)
  have w_holds : KW K fd_holds ["test", "store"] := kbn0 F_holds ["test", "store"] (fun l => l) (fun r => r) fun _ _ _ _ _ _ us hl => match us, hl with | [_, _], _ => rfl
  have C__law_told := fun (base : Heap) => (⟨g__law_told, F__law_told.kp, k__law_told, ok_told TH Rt Rn Ru te5 ne5 ue5 ue6 EM g_ArrowError F__law_told (C_holds base) w_holds⟩ : Cal P w K mg base CX0 8 "_law_told" _ (spTold K (He.ga K "Store")) _ _)
  have C__law_right := fun (base : Heap) => (⟨g__law_right, F__law_right.kp, k__law_right, ok_right TH S W (PT base) F__law_right (C__law_pick base) (C__law_drawn base) (C__law_store base) (C__law_odd base) (C__law_quiz base) (C__law_quiz_said base) (C__law_told base) (C__law_due base) (C__law_bent base) (C__law_quiz_read base) (C__law_shown base)⟩ : CalG P w K mg base CX0 10 "_law_right" _ spG _ _)
  exact ⟨fd_law, fun s v => bA s [v] rfl, fun base _ _ => ok_law T F_law (C__law_right base) (C__law_well base)⟩
end K40H
open PySem PySem.W PySem.Calls PyProof.Rows
theorem PySem.Challenge.cw_arrowcells_k40_tests_on_stores_holds : PySem.Challenge.rw_arrowcells_k40_tests_on_stores.Holds := by
  w_on; o_law
  refine HandSHeadRun.head_any (r := OpenLaw.row PySem.Challenge.rw_arrowcells_k40_tests_on_stores) (q := view (OpenLaw.row PySem.Challenge.rw_arrowcells_k40_tests_on_stores).prog [64]) (H := K40H.hk) (ob := K40H.ob) (M := 5000) (loose := K40H.nm) (d := HandSHeadRun.topDef (OpenLaw.row PySem.Challenge.rw_arrowcells_k40_tests_on_stores).prog 64) (kwd := []) K40H.ob_eq
    (by kernel_rfl) (fun s => by kernel_rfl) K40H.run (by kernel_rfl) (by kernel_rfl) (by kernel_rfl) (by rfl) (by first | assumption | decide +kernel) (by decide +kernel) ⟨rfl, rfl, rfl, rfl, rfl, by decide +kernel⟩ ?hw ?hc
  case hw => w_witness2
  case hc =>
    refine Ga.walk_G (l := PySem.Challenge.rw_arrowcells_k40_tests_on_stores) (n := 63) (k := 11) (x := "_law_script") (CX := fun _ => L2.CX0) rfl (by decide) (by kernel_rfl) ⟨rfl, by decide, by decide⟩ ?F (fun _ _ _ _ _ z => z)
    intro w mg fa h Y G hmg0
    obtain ⟨K, KX, c, cx, pp⟩ := Y
    have hmg : mg ("law" : PySem.Str) = some (.ref fa) := by
      have e : (HandSHeadRun.topDef (OpenLaw.row PySem.Challenge.rw_arrowcells_k40_tests_on_stores).prog 64).name = ("law" : PySem.Str) := by kernel_rfl
      rw [← e]
      exact hmg0
    obtain ⟨fd, hb, hF⟩ := K40H.facts (P := (PySem.Challenge.rw_arrowcells_k40_tests_on_stores).prog) (w := w) KX G hmg c cx pp
    exact ⟨K, fd, K40.spLaw K, KX, hb, fun H a ns hl _ hS => ⟨a, ns, rfl, hS, hl, fun _ => rfl⟩, hF⟩

