import PyProof.Rows.All
import Wide.All
import OpenK.AllK
import Wide.FinOn
import HandS.ForMost
import HandS.Defaults
import HandS.WordsExc
import HandS.HeadHook1
import HandS.HeadHook2
import HandS.Style
import HandS.Wide
import HandS.WideBits
import HandS.Gcd
import HandS.IsInst
import HandS.Exc
import HandS.ExcOwn
import HandS.ExcInit
import HandS.ExcField
import HandS.TryOnly
import HandS.FStr
import HandS.RaiseMore
import PyProof.ReprRoads
import HandS.NoneIn
import PyProof.ReprLen
import PyProof.StrLawsRepr
import HandS.TupAny
import PyProof.EqAt
import PyProof.P3In
import PyProof.NeKinds
import HandS.ExcIs
import KE.KExcIs
import PyProof.ListStr
import PySem.Challenge.RW_arrowcells_k39_one_deed_on_a_store
import HandS.Walk
import HandS.Conv
import HandS.Text
import HandS.Deep
import HandS.Property
import HandS.OwnEq
import KE.KRevSl
import HandS.MakeKw
import HandS.Iter
import HandS.Dict
import KE.KDictPairs
import KE.GoesEnum
import HandS.ForSpec
import HandS.SortRule
import HandS.SetFor
import HandS.Strs
import HandS.DictTup
import HandS.ListItems
import HandS.SortInts
import KE.KDictWalk
import HandS.DictComp
import PyProof.Rows.SortShellAny
import PyProof.Rows.SortStr
import HandS.TryMany
import PyProof.StrBlock2
import KE.KStateDown
import Lean
import HandS.Head0
import HandS.Head1
import HandS.Head2
import HandS.Head3
import HandS.HeadEnd
set_option Elab.async false
set_option linter.all false
set_option maxRecDepth 100000
set_option maxHeartbeats 2000000
namespace Ga
open PySem PySem.Spec PyProof.Rows L2
/-- a def's promise where no repr is under way -/
structure FnG (P : Program) (w : World) (K : PySem.W.Frag) (mg : Str → Option Value) (base : Heap) (CX : CXT) (k : Nat) (f : Addr) (fd : FuncData) (ps : List Str) (sp : Sp) : Prop where
  cnt : ∀ vs H Q E, sp vs H Q E → vs.length = ps.length
  go : ∀ (A : Around) (ev : List Env) (s : Shared) (H : Hp) (ar : Args) (us : List Value) (vs : List V) (Q : VK) (E : XK),
    A.guards = some [] → Room k A → Env0 P w K mg base A ev s H → BindsTo s fd ar (ps.zip us) → Vals vs us →
    sp vs H Q E → codeAny (model P w) A (.call (.ref f) ar) (CR CX ev P w H s Q E) s
section
variable {P : Program} {w : World} {K : PySem.W.Frag} {mg : Str → Option Value} {base : Heap} {CX : CXT} {k : Nat} {f : Addr} {fd : FuncData} {ps : List Str} {sp : Sp}
theorem FnG.of (F : FnOk P w K mg base CX k f fd ps sp) : FnG P w K mg base CX k f fd ps sp :=
  ⟨F.len, fun A ev s H ar us vs Q E _ => F.run A ev s H ar us vs Q E⟩
theorem FnG.mk' {params : Arguments} {body : List Stmt} {sc : Scope} {x qual : Str} {dvs : List V} {kws : List (Str × V)} {N : List Str}
    (F : FunD K x qual params body sc dvs kws f fd) (S : FnScope N ps sc) (cnt : ∀ vs H Q E, sp vs H Q E → vs.length = ps.length)
    (hb : ∀ (cdv : Value) (A : Around) (ev : List Env) (s : Shared) (H : Hp) (vs : List V) (Q : VK) (E : XK), A.guards = some [] →
      Room k (A.deeper (envOfC qual sc s.heap.objs.size f cdv)) → sp vs H Q E →
      ∃ t, PSs (cxOf CX P w K mg base N qual sc f cdv A ev s H E) body t ∧ t { nx := fun _ H' => Q .non H', rt := Q } (start N vs) H) :
    FnG P w K mg base CX (k + 1) f fd ps sp := by
  obtain ⟨oc, od, dV, kV, doc, pm, an, cdv, ct, sl, e, lk, hcd, _, _⟩ := F.ex
  subst e
  refine ⟨cnt, ?_⟩
  intro A ev s H ar us vs Q E hg hr e0 hbi rv hsp
  have hk : K.In s.heap := e0.mod.kin.keeps (fun b o q => (e0.bs b o q).1)
  have hl : s.heap.NoLimit := e0.mod.nolimit.keeps (fun b o q => (e0.bs b o q).1)
  refine codeAny_call_function hr.depth (hk _ _ lk) rfl S.co S.gen rfl
    (PySem.W.codeRec_of hk hcd) (hbi _ _ _ _ ?_)
  refine wpAny_newFunctionEnv_cells S.kind ?_ ?_
  · rintro ⟨n, v⟩ hy
    have hp := S.par n (List.of_mem_zip hy).1
    cases hp with
    | inl q => exact .inl q
    | inr q => exact .inr ⟨q, PySem.W.cellsFrom_some _ _ _ (.inl q)⟩
  intro env he s1 x
  subst he
  refine ⟨hl.keeps x.toInCall.keep, codeAny_func ?_⟩
  obtain ⟨t, ht, hq⟩ := hb cdv A ev s H vs Q E hg (hr.deeper _) hsp
  have I := inv_start (CX := CX) (E := E) S hr.hd e0 (cnt _ _ _ _ hsp) rv x
  refine wpAny_mono (ht.run [] s1 _ H _ I hq) ?_ (fun _ _ z => z)
  intro fl s' hs
  cases fl with
  | brk => obtain ⟨_, _, _, q⟩ := hs; exact q.elim
  | cont => obtain ⟨_, _, _, q⟩ := hs; exact q.elim
  | next =>
    obtain ⟨_, H', J, q⟩ := hs
    exact ⟨.non, H', J.os, J.bare, J.base, J.hok, rfl, q⟩
  | ret u =>
    obtain ⟨v, _, H', J, r, q⟩ := hs
    exact ⟨v, H', J.os, J.bare, J.base, J.hok, r, q⟩
end
section
variable {X : Cx} {CX : CXT} {k : Nat} {f : Addr} {fd : FuncData} {ps : List Str} {sp : Sp} {E : XK} {x : Str} {p pos : Pos} {e : Expr} {es : List Expr} {t : TA} {ds : List Value} {dvs : List V}
theorem run_fnG {pins : List (Addr × Obj)} {σ : L2.St} {H : Hp} {s : Shared} {Q : VK} {us : List Value} {vs : List V} (F : FnG X.prog X.w X.K X.mg X.base CX k f fd ps sp) (hG : X.A.guards = some []) (hr : Room k X.A)
    (hb : Binds X.K fd ps ds) (hd : Vals dvs ds) (hx : Passes CX X E) (I : Inv X pins σ H s) (r : Vals vs us) (h : sp (vs ++ dvs) H Q E) : wpAny (model X.prog X.w) X.A (call (.ref f) us) (EP X pins σ Q) X.xe s := by
  have r2 := Vals.append r hd
  refine wpAny_call (codeAny_mono (F.go X.A X.stack s H ⟨us, []⟩ (us ++ ds) (vs ++ dvs) Q E hG hr I.env0
    (hb s us I.kIn (r2.length.symm.trans (F.cnt _ _ _ _ h))) r2 h) ?_)
  intro res s' hq
  cases res with
  | error er => exact hx pins σ H s er s' I hq
  | ok fl =>
    cases fl <;> first
      | exact I.after hq
      | exact hq.elim
theorem pe_callG (F : FnG X.prog X.w X.K X.mg X.base CX k f fd ps sp) (hG : X.A.guards = some []) (hr : Room k X.A) (hg : Gl X x) (hm : X.mg x = some (.ref f))
    (hk : PySem.W.keepIn X.K (.ref f) = true) (hb : Binds X.K fd ps ds) (hd : Vals dvs ds) (hx : Passes CX X E) (ha : PA X (e :: es) t)
    (hdb : (x == ("__debug__" : Str)) = false := by decide)
    (he : starEach (e :: es) X.env = (false, eval e X.env) :: starEach es X.env := by rfl)
    (hpl : (backTo pos (starEach es X.env)).any (·.1) = false := by rfl) : PE X (.Call (.Name x p) (e :: es) [] pos) (tCall sp dvs E t) := by
  constructor
  intro pins s σ H Q I h
  refine wpAny_Call_Name_kw (ld_glob I hg hm ?_ hdb)
  refine PySem.W.callWith_K (h₀ := X.base) I.ok.mod.kin hk ?_ he hpl
  refine thn (ha.run pos pins s σ H _ I h) ?_
  rintro us s1 ⟨vs, H1, I1, r, q⟩
  exact ⟨I1.kIn, run_fnG F hG hr hb hd hx I1 r q⟩
end
/-! ### repr of data -/
def dpt : PyData → Nat := PyData.depth
def rRepr (K : PySem.W.Frag) : List V → Hp → VK → Prop := fun xs H Q => ∃ (x : V) (d : PyData), xs = [x] ∧ Dp K H x d ∧ d.showable = true ∧ d.hasDict = false ∧ d.depth ≤ 50 ∧ d.shown.length ≤ sizeLine ∧ (∀ i, d = .int i → i.natAbs.log2 < 1920) ∧ Q (.str d.shown) H
theorem call_repr {X : Cx} {k : Nat} (hG : X.A.guards = some []) (hr : Room k X.A) : CallR X (.builtin "repr") (rRepr X.K) := by
  intro pins s σ H xs us Q I rv h
  obtain ⟨x, d, rfl, hd, hs, hn, hdp, hz, hi, q⟩ := h
  cases rv with
  | cons rx rn =>
    cases rn
    have fin : ∀ (tk : Nat) (u : Tok), EP X pins σ Q (.str d.shown u) { s with toks := tk } := fun tk u => ⟨.str d.shown, H, I.tok _, ⟨u, rfl⟩, q⟩
    obtain ⟨as, rd⟩ := Dp.reads I d x _ hd rx
    have hu := hr.units
    cases hd with
    | non => cases rx; exact PySem.P.repr_of_none (fin _ _)
    | bl b => cases rx; cases b <;> exact PySem.P.repr_of_bool (fin _ _)
    | int i => obtain ⟨t, rfl⟩ := rx; exact PySem.P.repr_of_int (hi i rfl) (fin _ _)
    | str y => obtain ⟨t, rfl⟩ := rx; exact PySem.P.repr_of_str (fin _ _) hz
    | lst ha hb =>
      cases rx
      refine repr_of_reads' rd hs (fun z => ?_) hG (by omega) (fun _ _ z => z) (fun h' u tk hk => ?_) hz
      · rw [hn] at z; cases z
      · exact ⟨.str _, H, I.kept (t' := tk) hk, ⟨u, rfl⟩, q⟩
    | tup ha hb =>
      cases rx
      refine repr_of_reads' rd hs (fun z => ?_) hG (by omega) (fun _ _ z => z) (fun h' u tk hk => ?_) hz
      · rw [hn] at z; cases z
      · exact ⟨.str _, H, I.kept (t' := tk) hk, ⟨u, rfl⟩, q⟩
/-! ### the law's end -/
theorem end_G {P : Program} {w : World} {K : PySem.W.Frag} {mg mb : Str → Option Value} {CX : CXT} {k : Nat} {fa a : Addr} {fd : FuncData} {x : Str} {sp : Sp} {s1 : Shared} {vs : List Value} {ns : List Int}
    (KX : K.In s1.heap) (hns : s1.heap.Ns mainGlobals mg) (hbn : s1.heap.Ns builtinsNs mb) (hbb : ∀ x : Str, x ≠ "__name__" → mb x = bootBuiltins x) (hlim : s1.heap.NoLimit) (hg : s1.gens = #[])
    (ha : s1.heap.get? a = some { cls := .type "list", data := .seq vs.toArray }) (hi : IntsAre vs ns) (hl : ns.length ≤ sizeLine) (hr : Room k callerA)
    (F : ∀ base : Heap, K.In base → base.Ns mainGlobals mg → FnG P w K mg base CX k fa fd [x] sp) (hbind : ∀ (s : Shared) (u : Value), BindsTo s fd ⟨[u], []⟩ [(x, u)])
    (hsp : ∀ H : Hp, Only H → SqL K H a (ns.map V.int) → sp [.ref a] H (fun v _ => v = .bl true) fun _ _ _ => False)
    (hCX : ∀ H e s', CX [] H s1 (fun _ _ _ => False) e s' → False) :
    codeAny (model P w) callerA (.call (.ref fa) ⟨[.ref a], []⟩)
      (fun r s' => r = .ok (.ret (.bool true)) ∧ OldK s1.heap s'.heap ∧ s'.os = s1.os ∧ AllBare s'.gens) s1 := by
  let ob : Obj := { cls := .type "list", data := .seq vs.toArray }
  have rv : Vals (ns.map V.int) vs := vals_ints hi
  have main : ∀ H : Hp, (∀ b, H b = none ∨ (b = a ∧ K.lookup a = none ∧ H b = some (.frz ob (.lst (ns.map V.int))))) → SqL K H a (ns.map V.int) →
      codeAny (model P w) callerA (.call (.ref fa) ⟨[.ref a], []⟩)
        (fun r s' => r = .ok (.ret (.bool true)) ∧ OldK s1.heap s'.heap ∧ s'.os = s1.os ∧ AllBare s'.gens) s1 := by
    intro H hH hS
    have hok : HOk P w H s1.heap := by
      intro b u e
      rcases hH b with z | ⟨rfl, _, z⟩
      · rw [e] at z; cases z
      · rw [e] at z; cases z
        exact ⟨ha, by rw [List.length_map]; exact hl, vs, _, rv, ha⟩
    have nsH : ∀ {b : Addr} {m : Str → Option Value}, s1.heap.Ns b m → (hidT s1.heap H).Ns b m := by
      rintro b m ⟨o, es, ep, e, d, r⟩
      refine ⟨o, es, ep, hidT_get e ?_, d, r⟩
      rcases hH b with z | ⟨rfl, _, z⟩
      · exact z
      · rw [ha] at e; cases e; cases (show Data.seq vs.toArray _ = Data.dict es ep from d)
    have kB : K.In (hidT s1.heap H) := by
      intro b o e
      refine hidT_get (KX b o e) ?_
      rcases hH b with z | ⟨rfl, n, z⟩
      · exact z
      · rw [n] at e; cases e
    obtain ⟨mc, l1, l2⟩ := hlim
    have e0 : Env0 P w K mg (hidT s1.heap H) callerA [] s1 H :=
      ⟨rfl, ⟨kB, nsH hns, ⟨mb, nsH hbn, hbb⟩, ⟨mc, nsH l1, l2⟩⟩, fun b o e => of_hidT e, by rw [hidT_size]; exact Nat.le_refl _, trivial, fun b hb => (nomatch hb), hok, .of_eq hg⟩
    have hO : Only H := by
      intro b
      rcases hH b with z | ⟨_, _, z⟩
      · exact .inl z
      · exact .inr ⟨_, _, z⟩
    refine codeAny_mono ((F _ kB (nsH hns)).go callerA [] s1 H ⟨[.ref a], []⟩ [.ref a] [.ref a] _ _ rfl hr e0 (hbind s1 (.ref a)) (.cons rfl .nil) (hsp H hO hS)) ?_
    intro r s' h
    match r, h with
    | .error e, h => exact (hCX H e s' h).elim
    | .ok (.ret u), h =>
      obtain ⟨v, H', os, bare, un, hok', r', q⟩ := h
      subst q
      cases r'
      refine ⟨rfl, OldK.of_keep ?_, os, bare⟩
      intro b o e
      rcases hH b with z | ⟨rfl, _, z⟩
      · exact un.keep b o e z (fun hm => nomatch hm) (fun hm => nomatch hm)
      · have z2 := un.frzs _ _ _ z
        have y := (hok' _ _ z2).1
        rw [ha] at e; cases e
        exact y
    | .ok .next, h => exact h.elim
    | .ok .brk, h => exact h.elim
    | .ok .cont, h => exact h.elim
  cases hk : K.lookup a with
  | some o =>
    have e := KX a o hk
    rw [ha] at e
    cases e
    exact main (fun _ => none) (fun _ => .inl rfl) (.inr ⟨_, vs.toArray, _, hk, rfl, rfl, rfl, by rw [List.size_toArray, hi.length]; exact hl, rv⟩)
  | none =>
    refine main (fun b => if b = a then some (.frz ob (.lst (ns.map V.int))) else none) (fun b => ?_) (.inl (.inr ⟨ob, if_pos rfl⟩))
    by_cases hb : b = a
    · exact .inr ⟨hb, hk, if_pos hb⟩
    · exact .inl (if_neg hb)
theorem walk_G {l : PySem.W.OpenLaw} {n k : Nat} {q : Program} {loose : List Str} {XP : (Str → Option Value) → Heap → Prop} {YP : World → Heap → Prop} {d : DefRec} {CX : World → CXT} {x : Str}
    (hn : l.most = some n) (hn2 : n ≤ sizeLine) (hdf : d.params.defaults = []) (hr : Room k callerA)
    (F : ∀ (w : World) (mg : Str → Option Value) (fa : Addr) (h : Heap), YP w h → h.Ns mainGlobals mg → mg d.name = some (.ref fa) →
      ∃ (K : PySem.W.Frag) (fd : FuncData) (sp : Sp), K.In h ∧ (∀ (s : Shared) (u : Value), BindsTo s fd ⟨[u], []⟩ [(x, u)]) ∧
        (∀ (H : Hp) (a : Addr) (ns : List Int), ns.length ≤ n → Only H → SqL K H a (ns.map V.int) → sp [.ref a] H (fun v _ => v = .bl true) fun _ _ _ => False) ∧
        ∀ base : Heap, K.In base → base.Ns mainGlobals mg → FnG l.prog w K mg base (CX w) k fa fd [x] sp)
    (hCX : ∀ (w : World) (H : Hp) (s : Shared) (e : Value) (s' : Shared), CX w [] H s (fun _ _ _ => False) e s' → False) :
    PySem.W.WalkO q loose XP YP l.row.toRowW d [] (fun f vs => PySem.call f vs) := by
  refine Att.attach_call hn hdf ?_
  intro w s0 s1 mg mb fa o pm cd doc a vs ns G Y ho hd hcd hmg hobj hints hlen hg
  obtain ⟨K, fd, sp, KX, hb, hsp, hF⟩ := F w mg fa _ Y G.T.g hmg
  exact end_G KX G.T.g G.T.b G.T.builtins G.T.nolimit hg hobj hints (Nat.le_trans hlen hn2) hr hF hb
    (fun H hO hS => hsp H a ns hlen hO hS) (fun H e s' => hCX w H s1 e s')
/-! ### a head's facts with one more Bool -/
open He in
abbrev AlM : Type := AlD × Bool
open He in
def obsM (n : Nat) (fa : List Fa) (fn : List DefD) (ex : PySem.W.Frag → Bool) (g : Addr → Option Obj) : AlM := (obsD fa fn (frG g (asD g n)), ex (frG g (asD g n)))
open He in
def hookM (n : Nat) (fa : List Fa) (fn : List DefD) (ex : PySem.W.Frag → Bool) : PySem.W.Hook where
  α := AlM
  obs := fun s => obsM n fa fn ex s.heap.get?
  val := fun _ => (valD fn, true)
  says := fun _ h => ∃ K : PySem.W.Frag, K.In h ∧ SaysD fa fn K ∧ ex K = true
  of := fun _ _ e => ⟨_, frG_in, congrArg Prod.fst e, congrArg Prod.snd e⟩
  keeps := fun _ _ _ ⟨K, hK, c⟩ k => ⟨K, PySem.W.Frag.In.keeps hK k, c⟩
open He in
theorem obsM_eq {n : Nat} {fa : List Fa} {fn : List DefD} {ex : PySem.W.Frag → Bool} {g : Addr → Option Obj} {s : Shared} (h : ∀ a, g a = s.heap.get? a) : obsM n fa fn ex g = (hookM n fa fn ex).obs s := by
  obtain rfl : g = s.heap.get? := funext h
  rfl
end Ga

set_option Elab.async false
set_option linter.all false
set_option maxRecDepth 100000
set_option maxHeartbeats 2000000
/-! readings, written out where they are applied -/
namespace Rd
open PySem PySem.Spec PyProof.Rows L2
section
variable {σ : L2.St} {H : Hp} {Q : VK} {D : Ends} {ta tb tc te to ti : TE} {r r' : R2} {t u : TS} {tt tu : TT} {QB : Bool → Hp → Prop} {QL : List V → Hp → Prop} {TA1 TA2 : TA} {K : PySem.W.Frag} {QS : L2.St → Hp → Prop}
theorem tVar_ {i : Nat} : tVar i σ H Q = ∃ v, σ[i]? = some (some v) ∧ Q v H := rfl
theorem tC_ {v : V} : tC v σ H Q = Q v H := rfl
theorem tOp_ : tOp r ta tb σ H Q = ta σ H fun x H1 => tb σ H1 fun y H2 => r x y H2 Q := rfl
theorem tUn_ {f : V → Hp → VK → Prop} : tUn f ta σ H Q = ta σ H fun x H1 => f x H1 Q := rfl
theorem rI_ {C : Int → Int → Prop} {g : Int → Int → V} {x y : V} : rI C g x y H Q = ∃ i j, x = .int i ∧ y = .int j ∧ C i j ∧ Q (g i j) H := rfl
theorem rI0_ {g : Int → Int → V} {x y : V} : rI0 g x y H Q = ∃ i j, x = .int i ∧ y = .int j ∧ Q (g i j) H := rfl
theorem rU_ {g : Int → V} {x : V} : rU g x H Q = ∃ i, x = .int i ∧ Q (g i) H := rfl
theorem rEq_ {x y : V} : rEq x y H Q = (scal x y = true ∧ Q (.bl (decide (x = y))) H) := rfl
theorem rNe_ {x y : V} : rNe x y H Q = (scal x y = true ∧ Q (.bl (!decide (x = y))) H) := rfl
theorem tAndV_ : tAndV ta tb σ H Q = ta σ H fun x H1 => ∃ c, x = .bl c ∧ if c = true then tb σ H1 Q else Q (.bl false) H1 := rfl
theorem tOrV_ : tOrV ta tb σ H Q = ta σ H fun x H1 => ∃ c, x = .bl c ∧ if c = true then Q (.bl true) H1 else tb σ H1 Q := rfl
theorem tNotV_ : tNotV ta σ H Q = ta σ H fun x H1 => ∃ c, x = .bl c ∧ Q (.bl (!c)) H1 := rfl
theorem tIf_ : tIf tt ta tb σ H Q = tt σ H fun c H1 => if c = true then ta σ H1 Q else tb σ H1 Q := rfl
theorem tTest_ : tTest ta σ H QB = ta σ H fun x H' => ∃ k, x = .bl k ∧ QB k H' := rfl
theorem tB_ : tB ta σ H QB = ta σ H fun x H1 => ∃ c, x = .bl c ∧ QB c H1 := rfl
theorem tAnd_ : tAnd tt tu σ H QB = tt σ H fun c H1 => if c = true then tu σ H1 QB else QB false H1 := rfl
theorem tOr_ : tOr tt tu σ H QB = tt σ H fun c H1 => if c = true then QB true H1 else tu σ H1 QB := rfl
theorem tNot_ : tNot tt σ H QB = tt σ H fun c H1 => QB (!c) H1 := rfl
theorem tChain_ : tChain r r' ta tb tc σ H Q = ta σ H fun x H1 => tb σ H1 fun y H2 => r x y H2 fun z H3 => ∃ k, z = .bl k ∧ (if k = true then tc σ H3 fun w' H4 => r' y w' H4 Q else Q (.bl false) H3) := rfl
theorem tNil_ : tNil σ H QL = QL [] H := rfl
theorem tCons_ : tCons ta TA1 σ H QL = ta σ H fun x H1 => TA1 σ H1 fun xs H2 => QL (x :: xs) H2 := rfl
theorem tTup_ : tTup TA1 σ H Q = TA1 σ H fun xs H1 => xs.length ≤ sizeLine ∧ ∀ p, H1 p = none → Q (.ref p) (upd H1 p (.tup xs)) := rfl
theorem tLst_ : tLst TA1 σ H Q = TA1 σ H fun xs H1 => xs.length ≤ sizeLine ∧ ∀ p, H1 p = none → Q (.ref p) (upd H1 p (.lst xs)) := rfl
theorem tCB_ {f : List V → Hp → VK → Prop} : tCB f TA1 σ H Q = TA1 σ H fun vs H1 => f vs H1 Q := rfl
theorem tCall_ {sp : Sp} {dvs : List V} {E : XK} : tCall sp dvs E TA1 σ H Q = TA1 σ H fun vs H1 => sp (vs ++ dvs) H1 Q E := rfl
theorem tSeq_ : tSeq t u D σ H = t { D with nx := u D } σ H := rfl
theorem tNext_ : tNext D σ H = D.nx σ H := rfl
theorem tRet_ : tRet ta D σ H = ta σ H D.rt := rfl
theorem tRetN_ : tRetN D σ H = D.rt .non H := rfl
theorem tDrop_ : tDrop ta D σ H = ta σ H fun _ H1 => D.nx σ H1 := rfl
theorem tNever_ : tNever D σ H = False := rfl
theorem tBreak_ : tBreak D σ H = D.bk σ H := rfl
theorem tIfS_ : tIfS tt t u D σ H = tt σ H fun b H1 => if b = true then t D σ H1 else u D σ H1 := rfl
theorem tAsg_ {g : TG} : tAsg ta g D σ H = ta σ H fun x H1 => g x σ H1 D.nx := rfl
theorem gName_ {i : Nat} {v : V} : gName i v σ H QS = QS (σ.set i (some v)) H := rfl
theorem gTup_ {n : Nat} {g : TGs} {v : V} : gTup K n g v σ H QS = ∃ a xs, v = .ref a ∧ SqT K H a xs ∧ xs.length = n ∧ g xs σ H QS := rfl
theorem gCons_ {g : TG} {gs : TGs} {vs : List V} : gCons g gs vs σ H QS = ∃ v r, vs = v :: r ∧ g v σ H fun σ' H' => gs r σ' H' QS := rfl
theorem gNil_ {vs : List V} : gNil vs σ H QS = (vs = [] ∧ QS σ H) := rfl
theorem gSub_ {s : TSet} {v : V} : gSub to ti s v σ H QS = to σ H fun o H1 => ti σ H1 fun i H2 => s o i v H2 fun H3 => QS σ H3 := rfl
theorem tPar_ {i j : Nat} : tPar i j TA1 D σ H = TA1 σ H fun vs H1 => ∃ v w, vs = [v, w] ∧ D.nx ((σ.set i (some v)).set j (some w)) H1 := rfl
theorem tPar3_ {i j l : Nat} : tPar3 i j l TA1 D σ H = TA1 σ H fun vs H1 => ∃ u v w, vs = [u, v, w] ∧ D.nx (((σ.set i (some u)).set j (some v)).set l (some w)) H1 := rfl
theorem tSl_ {f : V → Option Int → Option Int → Hp → VK → Prop} {tl th : TO} : tSl f te tl th σ H Q = te σ H fun x H1 => tl σ H1 fun l H2 => th σ H2 fun u H3 => f x l u H3 Q := rfl
theorem tNoPart_ {Q : Option Int → Hp → Prop} : tNoPart σ H Q = Q none H := rfl
theorem tPart_ {Q : Option Int → Hp → Prop} : tPart ta σ H Q = ta σ H fun x H1 => ∃ i, x = .int i ∧ Q (some i) H1 := rfl
theorem tBM_ {T : String} {f : V → List V → Hp → VK → Prop} : tBM K T f to TA1 σ H Q = to σ H fun x H1 => tyV K T x H1 ∧ TA1 σ H1 fun xs H2 => f x xs H2 Q := rfl
theorem tDNewK_ : tDNewK σ H Q = ∀ p, H p = none → Q (.ref p) (upd H p (.dK [])) := rfl
theorem tFor_range1 {g : TG} {tb : TS} : tFor (iRng1 TA1) g tb D σ H = TA1 σ H fun vs H1 => ∃ j : Int, vs = [.int j] ∧ -(2 ^ 62) ≤ j ∧ j < 2 ^ 62 ∧ tFor (fun _ H R => R (Itr 0 j.toNat) H) g tb D σ H1 := rfl
theorem tFor_range2 {g : TG} {tb : TS} : tFor (iRng2 TA1) g tb D σ H = TA1 σ H fun vs H1 => ∃ i j : Int, vs = [.int i, .int j] ∧ (-(2 ^ 62) ≤ i ∧ i < 2 ^ 62 ∧ -(2 ^ 62) ≤ j ∧ j < 2 ^ 62) ∧ tFor (fun _ H R => R (Itr i (j - i).toNat) H) g tb D σ H1 := rfl
theorem tFor_list {g : TG} {tb : TS} : tFor (iList K ta) g tb D σ H = ta σ H fun x H1 => ∃ a, x = .ref a ∧ (∃ xs, SqL K H1 a xs) ∧ tFor (fun _ H R => R (Itl K a) H) g tb D σ H1 := rfl
theorem tFor_tup {g : TG} {tb : TS} : tFor (iTup K ta) g tb D σ H = ta σ H fun x H1 => ∃ a, x = .ref a ∧ (∃ xs, SqT K H1 a xs) ∧ tFor (fun _ H R => R (Itt K a) H) g tb D σ H1 := rfl
end
/-- a for over a range, by an invariant -/
theorem for_r {lo : Int} {n : Nat} {g : TG} {tb : TS} {D : Ends} {σ : L2.St} {H : Hp} (Pv : Nat → L2.St → Hp → Prop) (h0 : Pv 0 σ H)
    (hs : ∀ i σ H, i < n → Pv i σ H → g (.int (lo + i)) σ H fun σ2 H2 => tb { D with nx := Pv (i + 1), ct := Pv (i + 1), bk := D.nx } σ2 H2) (hd : ∀ σ H, Pv n σ H → D.nx σ H) :
    tFor (fun _ H R => R (Itr lo n) H) g tb D σ H := for_range Pv h0 hs hd
theorem for_l {K : PySem.W.Frag} {a : Addr} {xs : List V} {g : TG} {tb : TS} {D : Ends} {σ : L2.St} {H : Hp} (Pv : Nat → L2.St → Hp → Prop) (h0 : Pv 0 σ H) (hl : ∀ i σ H, i ≤ xs.length → Pv i σ H → SqL K H a xs)
    (hs : ∀ i x σ H, xs[i]? = some x → Pv i σ H → g x σ H fun σ2 H2 => tb { D with nx := Pv (i + 1), ct := Pv (i + 1), bk := D.nx } σ2 H2) (hd : ∀ σ H, Pv xs.length σ H → D.nx σ H) :
    tFor (fun _ H R => R (Itl K a) H) g tb D σ H := for_list Pv h0 hl hs hd
/-- all but u stands as it stood -/
def But (u : Addr) (H H' : Hp) : Prop := ∀ b o, b ≠ u → H b = some o → H' b = some o
theorem But.refl {u : Addr} {H : Hp} : But u H H := fun _ _ _ e => e
theorem But.trans {u : Addr} {H H1 H2 : Hp} (a : But u H H1) (b : But u H1 H2) : But u H H2 := fun c o n e => b c o n (a c o n e)
theorem But.same {u : Addr} {H H1 : Hp} (a : Same H H1) : But u H H1 := fun c o _ e => a c o e
theorem same_new {H : Hp} {p : Addr} {o : HO} (n : H p = none) : Same H (upd H p o) := fun b u e => by rw [upd_ne (ne_of_none e n)]; exact e
theorem But.put {u : Addr} {H : Hp} {o : HO} : But u H (upd H u o) := fun b _ n e => by rw [upd_ne n]; exact e
theorem some_or {H : Hp} {a b : Addr} {o : HO} (h : H a = some o) (n : H b = none) : a ≠ b := ne_of_none h n
/-- the callee as its callers know it -/
structure Cal (P : Program) (w : World) (K : PySem.W.Frag) (mg : Str → Option Value) (base : Heap) (CX : CXT) (k : Nat) (x : Str) (ps : List Str) (sp : Sp) (f : Addr) (fd : FuncData) : Prop where
  g : mg x = some (.ref f)
  kp : PySem.W.keepIn K (.ref f) = true
  b : Binds K fd ps []
  F : FnOk P w K mg base CX k f fd ps sp
structure CalG (P : Program) (w : World) (K : PySem.W.Frag) (mg : Str → Option Value) (base : Heap) (CX : CXT) (k : Nat) (x : Str) (ps : List Str) (sp : Sp) (f : Addr) (fd : FuncData) : Prop where
  g : mg x = some (.ref f)
  kp : PySem.W.keepIn K (.ref f) = true
  b : Binds K fd ps []
  F : Ga.FnG P w K mg base CX k f fd ps sp
/-! ### an own error with one field -/
structure Er (K : PySem.W.Frag) (mg : Str → Option Value) (x n : Str) (C fI : Addr) (fdI : FuncData) : Prop where
  gC : mg x = some (.ref C)
  oex : OexC K C
  noN : PySem.W.findIn K (.ref C) n = some none
  iC : PySem.W.findIn K (.ref C) "__init__" = some (some (.ref fI))
  tI : PySem.W.typeIn K (.ref fI) = some (.type "function")
  dn : (n == ("__debug__" : Str)) = false
  dc : (n == ("__classdict__" : Str)) = false
  F : ∃ (qual : Str) (params : Arguments) (scope : Scope) (q1 q2 q3 q4 : Pos), FunD K "__init__" qual params [.Assign [.Attribute (.Name "self" q1) n q2] (.Name n q3) q4] scope [] [] fI fdI ∧ FnScope ["self", n] ["self", n] scope
  b : Binds K fdI ["self", n] []
section
variable {P : Program} {w : World} {K : PySem.W.Frag} {mg : Str → Option Value} {base : Heap} {x n : Str} {C fI : Addr} {fdI : FuncData}
def spInitE (K : PySem.W.Frag) (n : Str) (C : Addr) : Sp := fun vs H Q _ => ∃ (a : Addr) (v : V), vs = [.ref a, v] ∧ H a = some (exo a C none) ∧ ∀ dx, H dx = none → dx ≠ a → Q .non (upd (upd H dx (exd dx [(n, v)])) a (exo a C (some dx)))
theorem ok_initE (R : Er K mg x n C fI fdI) : FnOk P w K mg base CX0 1 fI fdI ["self", n] (spInitE K n C) := by
  obtain ⟨qual, params, scope, q1, q2, q3, q4, F, S⟩ := R.F
  refine F.ok S (fun vs H Q E h => ?_) (fun cdv A outer s H vs Q E hr h => ?_)
  · obtain ⟨a, v, rfl, _⟩ := h
    rfl
  · obtain ⟨a, v, rfl, ha, k⟩ := h
    have vis : ∀ y ∈ (["self", n] : List Str), scope.names.lookup y = some .local ∨ scope.names.lookup y = some .cell ∨ scope.names.lookup y = some .free := fun y hy => (S.par y hy).elim .inl fun z => .inr (.inl z)
    refine ⟨_, pss_one (ps_ost (pe_var (i := 0) rfl (vis _ (by simp))) (pe_var (i := 1) rfl (vis _ (by simp)) R.dn R.dc)), ?_⟩
    exact ⟨_, rfl, _, rfl, a, C, rfl, R.oex, R.noN, .inl ⟨ha, fun dx h1 h2 => k dx h1 h2⟩⟩
end
/-- raise X(e) -/
def tRaise (C : Addr) (n : Str) (W : WX) (te : TE) : TS := fun _ σ H => te σ H fun x H1 => ∀ d, H1 d = none → W (.ref C) (some d) σ (upd H1 d (.xd [(n, x)]))
theorem tRaise_ {C : Addr} {n : Str} {W : WX} {te : TE} {D : Ends} {σ : L2.St} {H : Hp} : tRaise C n W te D σ H = te σ H fun x H1 => ∀ d, H1 d = none → W (.ref C) (some d) σ (upd H1 d (.xd [(n, x)])) := rfl
theorem tCallS_ {sp : Sp} {E : L2.St → XK} {t : TA} {σ : L2.St} {H : Hp} {Q : VK} : tCallS sp E t σ H Q = t σ H fun vs H1 => sp vs H1 Q (E σ) := rfl
theorem mono_var {i : Nat} : ∀ σ H Q Q', (∀ x H1, Q x H1 → Q' x H1) → tVar i σ H Q → tVar i σ H Q' := fun _ _ _ _ f ⟨v, e, q⟩ => ⟨v, e, f _ _ q⟩
theorem ps_raiseE {X : Cx} {x n : Str} {C fI : Addr} {fdI : FuncData} {W : WX} {a : Expr} {te : TE} {p pos pos2 : Pos} {k : Nat} (hc : X.calm = true) (R : Er X.K X.mg x n C fI fdI) (hr : Room (k + 2) X.A) (tk : Takes X W) (ha : PE X a te)
    (mono : ∀ σ H Q Q', (∀ x H1, Q x H1 → Q' x H1) → te σ H Q → te σ H Q')
    (hg : Gl X x := by rfl) (hd : (x == ("__debug__" : Str)) = false := by decide) (he : starEach (a :: []) X.env = (false, eval a X.env) :: starEach [] X.env := by rfl) (hpl : (backTo pos (starEach [] X.env)).any (·.1) = false := by rfl) :
    PS X (.Raise (some (.Call (.Name x p) [a] [] pos)) none pos2) (tRaise C n W te) := by
  have G : FnOk X.prog X.w X.K X.mg X.base CX0 1 fI fdI ["self", n] (spInitE X.K n C) := ok_initE R
  have h := ps_raise (pos := pos2) hc tk (pmk_oex (p := p) (pos := pos) R.oex R.iC R.tI G (hr.mono (by omega)) R.b .nil (fun _ _ _ _ _ _ _ z => z.elim) hg R.gC (pa_cons ha pa_nil he) hd he hpl)
  refine ⟨fun pins s σ H D I q => h.run pins s σ H D I ?_⟩
  refine mono σ H _ _ (fun x H1 q1 => ?_) q
  refine ⟨by show 1 ≤ 1000; decide, fun b hb => ⟨b, x, rfl, upd_same, fun dx h1 h2 => ⟨rfl, dx, [(n, x)], upd_same, ?_, ?_, ?_⟩⟩⟩
  · rw [upd_ne h2, upd_same]
  · rw [upd_ne h2] at h1; exact h1
  · have h3 : H1 dx = none := by rw [upd_ne h2] at h1; exact h1
    have e : upd (del (upd (upd (upd H1 b (exo b C none)) dx (exd dx [(n, x)])) b (exo b C (some dx))) b) dx (.xd [(n, x)]) = upd H1 dx (.xd [(n, x)]) := by
      funext c
      by_cases c1 : c = dx
      · rw [c1, upd_same, upd_same]
      · rw [upd_ne c1, upd_ne c1]
        by_cases c2 : c = b
        · rw [c2, del_same, hb]
        · rw [del_ne c2, upd_ne c2, upd_ne c1, upd_ne c2]
    rw [e]
    exact q1 dx h3
/-- plain values that the checks here meet: ints, bools, None, texts, the empty tuple -/
inductive Smp (H : Hp) : V → Prop
  | non : Smp H .non
  | bl (b : Bool) : Smp H (.bl b)
  | int (i : Int) : Smp H (.int i)
  | str (x : Str) : Smp H (.str x)
  | tup {a : Addr} (h : H a = some (.tup [])) : Smp H (.ref a)
theorem Smp.up {H H' : Hp} {v : V} (h : Smp H v) (s : ∀ a, H a = some (.tup []) → H' a = some (.tup [])) : Smp H' v := by
  cases h with
  | non => exact .non
  | bl b => exact .bl b
  | int i => exact .int i
  | str x => exact .str x
  | tup h => exact .tup (s _ h)
def wholeB : V → Bool
  | .int _ => true
  | _ => false
def iv : V → Int
  | .int i => i
  | _ => 0
def btw (x : V) (lo hi : Int) : Bool := wholeB x && (decide (lo ≤ iv x) && decide (iv x ≤ hi))
theorem btw_int {i lo hi : Int} : btw (.int i) lo hi = (decide (lo ≤ i) && decide (i ≤ hi)) := by unfold btw; rfl
theorem btw_int' {i lo hi : Int} (h1 : lo ≤ i) (h2 : i ≤ hi) : btw (.int i) lo hi = true := by rw [btw_int, decide_eq_true h1, decide_eq_true h2]; rfl
theorem btw_of {x : V} {lo hi : Int} (h : btw x lo hi = true) : ∃ i, x = .int i ∧ lo ≤ i ∧ i ≤ hi := by
  cases x with
  | int i =>
    rw [btw_int, Bool.and_eq_true] at h
    exact ⟨i, rfl, of_decide_eq_true h.1, of_decide_eq_true h.2⟩
  | _ => cases h
/-! ### f(k = v, ..) -/
def tCallK (sp : Sp) (gV : List V → List V) (m : Nat) (E : XK) (tk : TA) : TE := fun σ H Q => tk σ H fun zs H1 => zs.length = m ∧ sp (gV zs) H1 Q E
theorem tCallK_ {sp : Sp} {gV : List V → List V} {m : Nat} {E : XK} {tk : TA} {σ : L2.St} {H : Hp} {Q : VK} : tCallK sp gV m E tk σ H Q = tk σ H fun zs H1 => zs.length = m ∧ sp (gV zs) H1 Q E := rfl
section
variable {X : Cx} {CX : CXT} {k : Nat} {f : Addr} {fd : FuncData} {ps ks : List Str} {sp : Sp} {E : XK} {x : Str} {p pos : Pos} {kws : List Keyword} {tk : TA} {g : List Value → List Value} {gV : List V → List V}
theorem pe_callKw (F : FnOk X.prog X.w X.K X.mg X.base CX k f fd ps sp) (hr : Room k X.A) (hg : Gl X x) (hm : X.mg x = some (.ref f)) (hk : PySem.W.keepIn X.K (.ref f) = true)
    (hb : KBn X.K fd ps 0 ks (fun _ ws => g ws) (fun _ zs => gV zs)) (hx : Passes CX X E) (hkw : PK X kws tk)
    (hall : (backToKw pos (keywordEach kws X.env)).all (·.1.isSome) = true := by rfl) (hks : (backToKw pos (keywordEach kws X.env)).filterMap (·.1) = ks := by rfl)
    (hdb : (x == ("__debug__" : Str)) = false := by decide)
    (hpl : ((backTo pos (starEach [] X.env)).any (·.1) || (backToKw pos (keywordEach kws X.env)).any (·.1.isNone)) = false := by rfl) :
    PE X (.Call (.Name x p) [] kws pos) (tCallK sp gV ks.length E tk) := by
  constructor
  intro pins s σ H Q I h
  refine wpAny_Call_Name_kw (ld_glob I hg hm ?_ hdb)
  refine PySem.W.callWith_KW0 (h₀ := X.base) I.ok.mod.kin hk hall ?_ hpl
  refine thn (hkw.run pos pins s σ H _ I h) ?_
  rintro ws s2 ⟨zs, H2, I2, rz, l2, q2⟩
  refine ⟨I2.kIn, ?_⟩
  rw [hks]
  exact run_fnN (us := []) (vs := []) F hr hb hx I2 .nil rz rfl l2 q2
end
theorem kbn0 {K : PySem.W.Frag} {x qual : Str} {params : Arguments} {body : List Stmt} {scope : Scope} {f : Addr} {fd : FuncData} {ps : List Str} (F : FunD K x qual params body scope [] [] f fd) (ks : List Str) (g : {α : Type} → List α → List α)
    (hrel : ∀ {vs : List V} {us : List Value}, Vals vs us → Vals (g vs) (g us))
    (h : ∀ (kV doc pm : Value) (an : Option Addr) (cdv ct : Value) (ws : List Value), ws.length = ks.length → bindArgs (PySem.W.fnOf x qual params body scope .none kV doc pm an cdv ct) ⟨[], ks.zip ws⟩ = pure (ps.zip (g ws))) :
    KBn K fd ps 0 ks (fun _ ws => g ws) (fun _ zs => g zs) := by
  obtain ⟨oc, od, dV, kV, doc, pm, an, cdv, ct, sl, e, lk, hcd, hD, hK⟩ := F.ex
  rcases hD with ⟨_, e2⟩ | ⟨z, _⟩
  · subst e2 e
    refine ⟨fun s us ws X l1 l2 => ?_, fun _ r => hrel r⟩
    obtain rfl : us = [] := List.eq_nil_of_length_eq_zero l1
    exact .of_eq (h kV doc pm an cdv ct ws l2)
  · exact absurd rfl z
theorem gUnl_ {K : PySem.W.Frag} {n : Nat} {g : TGs} {v : V} {σ : L2.St} {H : Hp} {QS : L2.St → Hp → Prop} : gUnl K n g v σ H QS = ∃ a xs, v = .ref a ∧ SqL K H a xs ∧ xs.length = n ∧ g xs σ H QS := rfl
theorem sIx_none {n d : Nat} : HT.sIx n d none = d := rfl
/-- one statement at a time -/
theorem sq {t u : TS} {D : Ends} {σ : L2.St} {H : Hp} (h : ∀ U : L2.St → Hp → Prop, (∀ σ' H', u D σ' H' → U σ' H') → t { D with nx := U } σ H) : tSeq t u D σ H := h (u D) fun _ _ x => x
theorem ite2n {a b A B : Prop} [Decidable a] [Decidable b] (h : ¬ (a ∧ b)) (hB : B) : if a then (if b then A else B) else B := by
  by_cases ha : a
  · rw [if_pos ha, if_neg (fun hb => h ⟨ha, hb⟩)]; exact hB
  · rw [if_neg ha]; exact hB
section
variable {H : Hp} {Q : VK} {i j : Int} {a b : Str} {c e : Bool}
theorem eq_ii : rEq (.int i) (.int j) H Q = Q (.bl (decide (i = j))) H := by
  have h : decide (V.int i = V.int j) = decide (i = j) := by simp
  show (_ ∧ Q (.bl (decide (V.int i = V.int j))) H) = _
  rw [h]; simp [scal]
theorem ne_ii : rNe (.int i) (.int j) H Q = Q (.bl (!decide (i = j))) H := by
  have h : decide (V.int i = V.int j) = decide (i = j) := by simp
  show (_ ∧ Q (.bl (!decide (V.int i = V.int j))) H) = _
  rw [h]; simp [scal]
theorem eq_ss : rEq (.str a) (.str b) H Q = Q (.bl (decide (a = b))) H := by
  have h : decide (V.str a = V.str b) = decide (a = b) := by simp
  show (_ ∧ Q (.bl (decide (V.str a = V.str b))) H) = _
  rw [h]; simp [scal]
theorem ne_ss : rNe (.str a) (.str b) H Q = Q (.bl (!decide (a = b))) H := by
  have h : decide (V.str a = V.str b) = decide (a = b) := by simp
  show (_ ∧ Q (.bl (!decide (V.str a = V.str b))) H) = _
  rw [h]; simp [scal]
theorem eq_bb : rEq (.bl c) (.bl e) H Q = Q (.bl (decide (c = e))) H := by
  have h : decide (V.bl c = V.bl e) = decide (c = e) := by simp
  show (_ ∧ Q (.bl (decide (V.bl c = V.bl e))) H) = _
  rw [h]; simp [scal]
theorem ne_bb : rNe (.bl c) (.bl e) H Q = Q (.bl (!decide (c = e))) H := by
  have h : decide (V.bl c = V.bl e) = decide (c = e) := by simp
  show (_ ∧ Q (.bl (!decide (V.bl c = V.bl e))) H) = _
  rw [h]; simp [scal]
end
theorem rGcd_ {vs : List V} {H : Hp} {Q : VK} : rGcd vs H Q = ∃ a b : Int, vs = [.int a, .int b] ∧ Q (.int ((Nat.gcd a.natAbs b.natAbs : Nat) : Int)) H := rfl
theorem max_if {a b : Int} : (if b > a then b else a) = max a b := by
  by_cases h : b > a
  · rw [if_pos h]; omega
  · rw [if_neg h]; omega
section
variable {K : PySem.W.Frag} {H : Hp} {Q : VK} {x y : V}
theorem rIxL_ : rIxL K x y H Q = ∃ p xs i v, x = .ref p ∧ y = .int i ∧ SqL K H p xs ∧ atI xs i = some v ∧ Q v H := rfl
theorem rIxT_ : rIxT K x y H Q = ∃ p xs i v, x = .ref p ∧ y = .int i ∧ SqT K H p xs ∧ atI xs i = some v ∧ Q v H := rfl
theorem rSlL_ {lo hi : Option Int} : rSlL K x lo hi H Q = ∃ a xs, x = .ref a ∧ SqL K H a xs ∧ ∀ p, H p = none → Q (.ref p) (upd H p (.lst (cutV xs lo hi))) := rfl
theorem rCat_ : rCat x y H Q = ∃ l b xs zs, x = .ref l ∧ y = .ref b ∧ H l = some (.lst xs) ∧ H b = some (.lst zs) ∧ xs.length + zs.length ≤ sizeLine ∧ ∀ p, H p = none → Q (.ref p) (upd H p (.lst (xs ++ zs))) := rfl
theorem rSetL_ {o i v : V} {Q : Hp → Prop} : rSetL o i v H Q = ∃ p xs k j, o = .ref p ∧ i = .int k ∧ H p = some (.lst xs) ∧ ixN xs.length k = some j ∧ Q (upd H p (.lst (xs.set j v))) := rfl
theorem atI_nn {α : Type} {xs : List α} {i : Int} {v : α} (h0 : 0 ≤ i) (h : xs[i.toNat]? = some v) : atI xs i = some v := by
  have hl : i.toNat < xs.length := (List.getElem?_eq_some_iff.mp h).1
  unfold atI ixN
  rw [if_pos h0, if_pos (by omega)]
  exact h
end
theorem rRep_ {x y : V} {H : Hp} {Q : VK} : rRep x y H Q = ∃ l k xs, x = .ref l ∧ y = .int k ∧ H l = some (.lst xs) ∧ -(2 ^ 63) ≤ k ∧ k < 2 ^ 63 ∧ xs.length * k.toNat ≤ sizeLine ∧ ∀ p, H p = none → Q (.ref p) (upd H p (.lst (List.replicate k.toNat xs).flatten)) := rfl
end Rd

set_option Elab.async false
set_option linter.all false
set_option maxRecDepth 100000
set_option maxHeartbeats 2000000
/-! data: what is compared and shown -/
namespace Dt
open PySem PySem.Spec PyProof.Rows L2 Rd
/-- data of a bounded text -/
structure Fit (d : PyData) (k n : Nat) : Prop where
  s : d.showable = true
  h : d.hasDict = false
  dp : d.depth ≤ k
  sz : d.shown.length ≤ n
  c : d.canLay0 = true
theorem Fit.mono {d : PyData} {k n k' n' : Nat} (f : Fit d k n) (h1 : k ≤ k') (h2 : n ≤ n') : Fit d k' n' := ⟨f.s, f.h, Nat.le_trans f.dp h1, Nat.le_trans f.sz h2, f.c⟩
theorem Fit.non : Fit .none 0 5 := ⟨rfl, rfl, Nat.le_refl _, by show (PyData.shown .none).length ≤ 5; unfold PyData.shown; decide +kernel, rfl⟩
theorem Fit.bl (b : Bool) : Fit (.bool b) 0 5 := ⟨rfl, rfl, Nat.le_refl _, by unfold PyData.shown; cases b <;> decide +kernel, rfl⟩
theorem Fit.int {i : Int} {k : Nat} (h0 : 0 < k) (h9 : k ≤ 1919) (h : i.natAbs < 2 ^ k) : Fit (.int i) 0 (k + 1) := by
  have lg : i.natAbs.log2 < k := by
    by_cases z : i.natAbs = 0
    · rw [z]; show Nat.log2 0 < k; rw [Nat.log2_zero]; exact h0
    · exact (Nat.log2_lt z).mpr h
  refine ⟨?_, rfl, Nat.le_refl _, ?_, rfl⟩
  · show decide (i.natAbs.log2 < 1920) = true
    exact decide_eq_true (by omega)
  · have e : (PyData.shown (.int i)) = Str.ofString (toString i) := by unfold PyData.shown; rfl
    rw [e, PySem.ofString_length]
    exact int_text_length_le h0 lg
theorem sum_le {α : Type} (f : α → Nat) (n : Nat) : ∀ l : List α, (∀ x ∈ l, f x ≤ n) → (l.map f).sum ≤ l.length * n
  | [], _ => by simp
  | x :: l, h => by
    have h1 := h x List.mem_cons_self
    have h2 := sum_le f n l fun y hy => h y (List.mem_cons_of_mem _ hy)
    rw [List.map_cons, List.sum_cons, List.length_cons, Nat.add_mul, Nat.one_mul]
    omega
theorem fitAll {k n : Nat} : ∀ {ds : List PyData}, (∀ d ∈ ds, Fit d k n) → PyData.showableAll ds = true ∧ PyData.hasDictAll ds = false ∧ PyData.depthAll ds ≤ k ∧ (∀ t ∈ PyData.shownAll ds, t.length ≤ n) ∧ (PyData.shownAll ds).length = ds.length ∧ PyData.canLayAll0 ds = true
  | [], _ => ⟨rfl, rfl, Nat.zero_le _, fun t ht => (by rw [PyData.shownAll] at ht; cases ht), (by rw [PyData.shownAll]; rfl), rfl⟩
  | d :: ds, h => by
    have f := h d List.mem_cons_self
    obtain ⟨a, b, c, e, g, l⟩ := fitAll fun x hx => h x (List.mem_cons_of_mem _ hx)
    refine ⟨by rw [PyData.showableAll, f.s, a]; rfl, by rw [PyData.hasDictAll, f.h, b]; rfl, by rw [PyData.depthAll]; have := f.dp; omega, ?_, by rw [PyData.shownAll, List.length_cons, List.length_cons, g], by rw [PyData.canLayAll0, f.c, l]; rfl⟩
    intro t ht
    rw [PyData.shownAll] at ht
    rcases List.mem_cons.mp ht with z | z
    · rw [z]; exact f.sz
    · exact e t z
theorem Fit.list {ds : List PyData} {k n : Nat} (h : ∀ d ∈ ds, Fit d k n) : Fit (.list ds) (k + 1) (ds.length * (n + 2) + 3) := by
  obtain ⟨a, b, c, e, g, l⟩ := fitAll h
  refine ⟨by rw [PyData.showable, a], by rw [PyData.hasDict, b], by rw [PyData.depth]; omega, ?_, by rw [PyData.canLay0, l]⟩
  rw [PyData.shown]
  have h1 := listText_len_le (PyData.shownAll ds)
  have h2 := sum_le (·.length) n (PyData.shownAll ds) e
  rw [g] at h1 h2
  rw [Nat.mul_add]
  omega
theorem Fit.tuple {ds : List PyData} {k n : Nat} (h : ∀ d ∈ ds, Fit d k n) : Fit (.tuple ds) (k + 1) (ds.length * (n + 2) + 3) := by
  obtain ⟨a, b, c, e, g, l⟩ := fitAll h
  refine ⟨by rw [PyData.showable, a], by rw [PyData.hasDict, b], by rw [PyData.depth]; omega, ?_, by rw [PyData.canLay0, l]⟩
  rw [PyData.shown]
  have h1 := tupleText_len_le (PyData.shownAll ds)
  have h2 := sum_le (·.length) n (PyData.shownAll ds) e
  rw [g] at h1 h2
  rw [Nat.mul_add]
  omega
theorem Fit.str {x : Str} {n : Nat} (h : x.length ≤ n) (hc : ∀ c ∈ x.cps.toList, c < 0x110000) : Fit (.str x) 0 (10 * n + 2) := by
  have e : PyData.shown (.str x) = reprText x := by unfold PyData.shown; rfl
  refine ⟨rfl, rfl, Nat.le_refl _, ?_, ?_⟩
  · rw [e]
    have := StrLaws.reprText_len x fun c hc' => Nat.lt_trans (hc c hc') (by decide)
    omega
  · show x.cps.all (· < 0x110000) = true
    rw [← Array.all_toList, List.all_eq_true]
    intro c hc'
    exact decide_eq_true (hc c hc')
theorem Fit.shaped {d : PyData} {k n : Nat} (f : Fit d k n) (h : k ≤ 64) : SeqAt.shaped d = true := by
  have := f.dp
  show (d.canLay0 && decide (d.depth ≤ 64)) = true
  rw [f.c, decide_eq_true (show d.depth ≤ 64 by omega)]; rfl
/-- repr of such data -/
theorem rRepr_fit {K : PySem.W.Frag} {H : Hp} {Q : VK} {x : V} {d : PyData} {k n : Nat} (f : Fit d k n) (hk : k ≤ 50) (hn : n ≤ 1000000) (dd : Dp K H x d) (q : Q (.str d.shown) H) : Ga.rRepr K [x] H Q := by
  have := f.dp
  have := f.sz
  refine ⟨x, d, rfl, dd, f.s, f.h, by omega, Nat.le_trans (Nat.le_trans f.sz hn) (by rw [sizeLine_eq]; decide), ?_, q⟩
  intro i e
  have z := f.s
  rw [e] at z
  exact of_decide_eq_true z
theorem Dp.ints {K : PySem.W.Frag} {H : Hp} : ∀ (ns : List Int), DpAll K H (ns.map V.int) (ns.map PyData.int)
  | [] => .nil
  | n :: ns => .cons (.int n) (Dp.ints ns)
mutual
theorem Dp.up {K : PySem.W.Frag} {H H' : Hp} (hs : Same H H') : ∀ (d : PyData) (v : V), Dp K H v d → Dp K H' v d
  | .none, _, h => by cases h; exact .non
  | .bool b, _, h => by cases h; exact .bl b
  | .int b, _, h => by cases h; exact .int b
  | .str b, _, h => by cases h; exact .str b
  | .dict b, _, h => by cases h
  | .list ds, _, h => by
    cases h with
    | lst a b => exact .lst (hs.seq a) (DpAll.up hs ds _ b)
  | .tuple ds, _, h => by
    cases h with
    | tup a b =>
      refine .tup ?_ (DpAll.up hs ds _ b)
      rcases a with (a | ⟨o, a⟩) | a
      · exact .inl (.inl (hs _ _ a))
      · exact .inl (.inr ⟨o, hs _ _ a⟩)
      · exact .inr a
theorem DpAll.up {K : PySem.W.Frag} {H H' : Hp} (hs : Same H H') : ∀ (ds : List PyData) (vs : List V), DpAll K H vs ds → DpAll K H' vs ds
  | [], _, h => by cases h; exact .nil
  | d :: ds, _, h => by
    cases h with
    | cons a b => exact .cons (Dp.up hs d _ a) (DpAll.up hs ds _ b)
end
theorem eqv_ints : ∀ xs ys : List Int, PyData.eqvAll (xs.map .int) (ys.map .int) = decide (xs = ys)
  | [], [] => rfl
  | [], _ :: _ => by simp [PyData.eqvAll]
  | _ :: _, [] => by simp [PyData.eqvAll]
  | x :: xs, y :: ys => by
    rw [List.map_cons, List.map_cons, PyData.eqvAll, eqv_ints xs ys, PyData.eqv]
    by_cases h : x = y
    · subst h; simp
    · simp [h]
theorem eqv_listI (xs ys : List Int) : PyData.eqv (.list (xs.map .int)) (.list (ys.map .int)) = decide (xs = ys) := by rw [PyData.eqv, eqv_ints]
theorem fit_ints {ns : List Int} {k : Nat} (h0 : 0 < k) (h9 : k ≤ 1919) (h : ∀ n ∈ ns, n.natAbs < 2 ^ k) : Fit (.list (ns.map .int)) 1 (ns.length * (k + 3) + 3) := by
  have := Fit.list (ds := ns.map PyData.int) (k := 0) (n := k + 1) (fun d hd => by
    obtain ⟨n, hn, rfl⟩ := List.mem_map.mp hd
    exact Fit.int h0 h9 (h n hn))
  rwa [List.length_map] at this
theorem rNeD_ {K : PySem.W.Frag} {H : Hp} {Q : VK} {x y : V} {d e : PyData} {k n k' n' : Nat} (fd : Fit d k n) (fe : Fit e k' n') (hk : k ≤ 64) (hk' : k' ≤ 64) (hd : Dp K H x d) (he : Dp K H y e) (q : Q (.bl (!PyData.eqv d e)) H) : rNeD K x y H Q :=
  ⟨d, e, hd, he, fd.shaped hk, fe.shaped hk', q⟩
theorem rEqD_ {K : PySem.W.Frag} {H : Hp} {Q : VK} {x y : V} {d e : PyData} {k n k' n' : Nat} (fd : Fit d k n) (fe : Fit e k' n') (hk : k ≤ 64) (hk' : k' ≤ 64) (hd : Dp K H x d) (he : Dp K H y e) (q : Q (.bl (PyData.eqv d e)) H) : rEqD K x y H Q :=
  ⟨d, e, hd, he, fd.shaped hk, fe.shaped hk', q⟩
section
variable {K : PySem.W.Frag} {H : Hp} {σ : L2.St} {Q : VK} {g : TG} {tt : TT} {te : TE} {vs : List Nat} {TA1 : TA} {ta : TE}
theorem wipe0 : wipe σ [] = σ := rfl
theorem wipe1 {v : Nat} {vs : List Nat} : wipe σ (v :: vs) = (wipe σ vs).set v none := rfl
theorem tLc_range1 : tLc (iRng1 TA1) g tt te vs σ H Q = TA1 σ H fun ws H1 => ∃ j : Int, ws = [.int j] ∧ -(2 ^ 62) ≤ j ∧ j < 2 ^ 62 ∧ tLc (fun _ H R => R (Itr 0 j.toNat) H) g tt te vs σ H1 Q := rfl
theorem tLc_range2 : tLc (iRng2 TA1) g tt te vs σ H Q = TA1 σ H fun ws H1 => ∃ i j : Int, ws = [.int i, .int j] ∧ (-(2 ^ 62) ≤ i ∧ i < 2 ^ 62 ∧ -(2 ^ 62) ≤ j ∧ j < 2 ^ 62) ∧ tLc (fun _ H R => R (Itr i (j - i).toNat) H) g tt te vs σ H1 Q := rfl
theorem tLc_list : tLc (iList K ta) g tt te vs σ H Q = ta σ H fun x H1 => ∃ a, x = .ref a ∧ (∃ xs, SqL K H1 a xs) ∧ tLc (fun _ H R => R (Itl K a) H) g tt te vs σ H1 Q := rfl
theorem tLc_tup : tLc (iTup K ta) g tt te vs σ H Q = ta σ H fun x H1 => ∃ a, x = .ref a ∧ (∃ xs, SqT K H1 a xs) ∧ tLc (fun _ H R => R (Itt K a) H) g tt te vs σ H1 Q := rfl
theorem tYes_ {QB : Bool → Hp → Prop} : tYes σ H QB = QB true H := rfl
/-- what a turn of a comprehension asks -/
def Lturn (g : TG) (tt : TT) (te : TE) (vs : List Nat) (σ : L2.St) (D : Addr) (x : V) (H : Hp) (Nx : Hp → Prop) : Prop := g x (wipe σ vs) H fun σ2 H2 => wipe σ2 vs = wipe σ vs ∧ tt σ2 H2 fun b H3 =>
  if b = true then te σ2 H3 fun y H4 => ∃ acc, H4 D = some (.lst acc) ∧ acc.length < sizeLine ∧ Nx (upd H4 D (.lst (acc ++ [y]))) else Nx H3
theorem lc_r {lo : Int} {n : Nat} (Pv : Addr → Nat → Hp → Prop) (h : ∀ D, H D = none → Pv D 0 (upd H D (.lst [])) ∧ (∀ i H', i < n → Pv D i H' → Lturn g tt te vs σ D (.int (lo + i)) H' (Pv D (i + 1))) ∧ (∀ H', Pv D n H' → Q (.ref D) H')) :
    tLc (fun _ H R => R (Itr lo n) H) g tt te vs σ H Q := fun D hD => lc_range (Pv D) (h D hD).1 (h D hD).2.1 (h D hD).2.2
theorem lc_l {a : Addr} {xs : List V} (Pv : Addr → Nat → Hp → Prop) (h : ∀ D, H D = none → Pv D 0 (upd H D (.lst [])) ∧ (∀ i H', i ≤ xs.length → Pv D i H' → SqL K H' a xs) ∧ (∀ i x H', xs[i]? = some x → Pv D i H' → Lturn g tt te vs σ D x H' (Pv D (i + 1))) ∧ (∀ H', Pv D xs.length H' → Q (.ref D) H')) :
    tLc (fun _ H R => R (Itl K a) H) g tt te vs σ H Q := fun D hD => lc_list (xs := xs) (Pv D) (h D hD).1 (h D hD).2.1 (h D hD).2.2.1 (h D hD).2.2.2
theorem lc_t {a : Addr} {xs : List V} (Pv : Addr → Nat → Hp → Prop) (h : ∀ D, H D = none → Pv D 0 (upd H D (.lst [])) ∧ (∀ i H', i ≤ xs.length → Pv D i H' → SqT K H' a xs) ∧ (∀ i x H', xs[i]? = some x → Pv D i H' → Lturn g tt te vs σ D x H' (Pv D (i + 1))) ∧ (∀ H', Pv D xs.length H' → Q (.ref D) H')) :
    tLc (fun _ H R => R (Itt K a) H) g tt te vs σ H Q := fun D hD => lc_tup (xs := xs) (Pv D) (h D hD).1 (h D hD).2.1 (h D hD).2.2.1 (h D hD).2.2.2
end
end Dt

set_option Elab.async false
set_option linter.all false
set_option maxRecDepth 100000
set_option maxHeartbeats 2000000
/-! data in which an empty dict may lie -/
namespace Dq
open PySem PySem.Spec PyProof.Rows L2 Rd Dt
/-- what the head says of the modules' table -/
def SysD (K : PySem.W.Frag) : Prop := ∃ o : Obj, K.lookup sysModules = some o ∧ o.cls = .type "dict"
def smS (s : Str) : Bool := decide (s.length ≤ 10000) && PyData.strOk s
mutual
inductive Dq (K : PySem.W.Frag) (H : Hp) : V → PyData → Prop
  | non : Dq K H .non .none
  | bl (b : Bool) : Dq K H (.bl b) (.bool b)
  | int (i : Int) (h : i.natAbs < 1024) : Dq K H (.int i) (.int i)
  | str (x : Str) (h : smS x = true) : Dq K H (.str x) (.str x)
  | lst {a : Addr} {xs : List V} {ds : List PyData} : H a = some (.lst xs) → xs.length ≤ 2 → DqAll K H xs ds → Dq K H (.ref a) (.list ds)
  | tup {a : Addr} {xs : List V} {ds : List PyData} : H a = some (.tup xs) → DqAll K H xs ds → Dq K H (.ref a) (.tuple ds)
  | dic {a : Addr} : H a = some (.dK []) → Dq K H (.ref a) (.dict [])
inductive DqAll (K : PySem.W.Frag) (H : Hp) : List V → List PyData → Prop
  | nil : DqAll K H [] []
  | cons {v : V} {vs : List V} {d : PyData} {ds : List PyData} : Dq K H v d → DqAll K H vs ds → DqAll K H (v :: vs) (d :: ds)
end
variable {K : PySem.W.Frag} {H H' : Hp}
mutual
theorem Dq.ups {K : PySem.W.Frag} {H H' : Hp} (hs : ∀ a o, H a = some o → (∀ xs : List V, (o = .lst xs ∧ xs.length ≤ 2) ∨ o = .tup xs ∨ o = .dK [] → H' a = some o)) : ∀ (d : PyData) (v : V), Dq K H v d → Dq K H' v d
  | .none, _, h => by cases h; exact .non
  | .bool b, _, h => by cases h; exact .bl b
  | .int b, _, h => by cases h with | int _ h => exact .int b h
  | .str b, _, h => by cases h with | str _ h => exact .str b h
  | .dict b, _, h => by
    cases h with
    | dic a => exact .dic (hs _ _ a [] (.inr (.inr rfl)))
  | .list ds, _, h => by
    cases h with
    | lst a l b => exact .lst (hs _ _ a _ (.inl ⟨rfl, l⟩)) l (DqAll.ups hs ds _ b)
  | .tuple ds, _, h => by
    cases h with
    | tup a b => exact .tup (hs _ _ a _ (.inr (.inl rfl))) (DqAll.ups hs ds _ b)
theorem DqAll.ups {K : PySem.W.Frag} {H H' : Hp} (hs : ∀ a o, H a = some o → (∀ xs : List V, (o = .lst xs ∧ xs.length ≤ 2) ∨ o = .tup xs ∨ o = .dK [] → H' a = some o)) : ∀ (ds : List PyData) (vs : List V), DqAll K H vs ds → DqAll K H' vs ds
  | [], _, h => by cases h; exact .nil
  | d :: ds, _, h => by
    cases h with
    | cons a b => exact .cons (Dq.ups hs d _ a) (DqAll.ups hs ds _ b)
end
theorem Dq.up (hs : Same H H') {d : PyData} {v : V} (h : Dq K H v d) : Dq K H' v d := Dq.ups (fun a o e _ _ => hs a o e) d v h
theorem DqAll.up (hs : Same H H') {d : List PyData} {v : List V} (h : DqAll K H v d) : DqAll K H' v d := DqAll.ups (fun a o e _ _ => hs a o e) d v h
/-- data outlives what is done to other things -/
theorem Dq.keep {d : PyData} {v : V} (hs : ∀ a o, H a = some o → (∀ xs : List V, (o = .lst xs ∧ xs.length ≤ 2) ∨ o = .tup xs ∨ o = .dK [] → H' a = some o)) (h : Dq K H v d) : Dq K H' v d := Dq.ups hs d v h
theorem DqAll.keep {d : List PyData} {v : List V} (hs : ∀ a o, H a = some o → (∀ xs : List V, (o = .lst xs ∧ xs.length ≤ 2) ∨ o = .tup xs ∨ o = .dK [] → H' a = some o)) (h : DqAll K H v d) : DqAll K H' v d := DqAll.ups hs d v h
theorem DqAll.len : ∀ {vs : List V} {ds : List PyData}, DqAll K H vs ds → vs.length = ds.length
  | _, _, .nil => rfl
  | _, _, .cons _ h => congrArg (· + 1) h.len
theorem DqAll.at {vs : List V} {ds : List PyData} (h : DqAll K H vs ds) : ∀ {i : Nat} {d : PyData}, ds[i]? = some d → ∃ v, vs[i]? = some v ∧ Dq K H v d := by
  induction ds generalizing vs with
  | nil => intro i d e; cases i <;> cases e
  | cons x xs ih =>
    intro i d e
    cases h with
    | cons a b =>
      cases i with
      | zero => cases e; exact ⟨_, rfl, a⟩
      | succ i => exact ih b e
theorem DqAll.atV {vs : List V} {ds : List PyData} (h : DqAll K H vs ds) : ∀ {i : Nat} {v : V}, vs[i]? = some v → ∃ d, ds[i]? = some d ∧ Dq K H v d := by
  induction ds generalizing vs with
  | nil => intro i d e; cases h; cases i <;> cases e
  | cons x xs ih =>
    intro i d e
    cases h with
    | cons a b =>
      cases i with
      | zero => cases e; exact ⟨_, rfl, a⟩
      | succ i => exact ih b e
theorem DqAll.append {vs ws : List V} {ds es : List PyData} (h : DqAll K H vs ds) (g : DqAll K H ws es) : DqAll K H (vs ++ ws) (ds ++ es) := by
  induction ds generalizing vs with
  | nil => cases h; exact g
  | cons x xs ih =>
    cases h with
    | cons a b => exact .cons a (ih b)
theorem DqAll.take {vs : List V} {ds : List PyData} (h : DqAll K H vs ds) : ∀ n, DqAll K H (vs.take n) (ds.take n) := by
  induction ds generalizing vs with
  | nil => intro n; cases h; simp; exact .nil
  | cons x xs ih =>
    intro n
    cases h with
    | cons a b =>
      cases n with
      | zero => exact .nil
      | succ n => exact .cons a (ih b n)
theorem DqAll.drop {vs : List V} {ds : List PyData} (h : DqAll K H vs ds) : ∀ n, DqAll K H (vs.drop n) (ds.drop n) := by
  induction ds generalizing vs with
  | nil => intro n; cases h; simp; exact .nil
  | cons x xs ih =>
    intro n
    cases h with
    | cons a b =>
      cases n with
      | zero => exact .cons a b
      | succ n => exact ih b n
mutual
theorem Dq.dp {K : PySem.W.Frag} {H : Hp} : ∀ (d : PyData) (v : V), d.hasDict = false → Dq K H v d → Dp K H v d
  | .none, _, _, h => by cases h; exact .non
  | .bool b, _, _, h => by cases h; exact .bl b
  | .int b, _, _, h => by cases h; exact .int b
  | .str b, _, _, h => by cases h; exact .str b
  | .dict b, _, n, h => by rw [PyData.hasDict] at n; cases n
  | .list ds, _, n, h => by
    rw [PyData.hasDict] at n
    cases h with
    | lst a _ b => exact .lst (SqL.of a) (DqAll.dp ds _ n b)
  | .tuple ds, _, n, h => by
    rw [PyData.hasDict] at n
    cases h with
    | tup a b => exact .tup (SqT.of a) (DqAll.dp ds _ n b)
theorem DqAll.dp {K : PySem.W.Frag} {H : Hp} : ∀ (ds : List PyData) (vs : List V), PyData.hasDictAll ds = false → DqAll K H vs ds → DpAll K H vs ds
  | [], _, _, h => by cases h; exact .nil
  | d :: ds, _, n, h => by
    rw [PyData.hasDictAll, Bool.or_eq_false_iff] at n
    cases h with
    | cons a b => exact .cons (Dq.dp d _ n.1 a) (DqAll.dp ds _ n.2 b)
end
section
variable {X : Cx} {pins : List (Addr × Obj)} {σ : L2.St} {s : Shared}
mutual
theorem Dq.reads (S : SysD X.K) (I : Inv X pins σ H s) : ∀ (d : PyData) (v : V) (u : Value), Dq X.K H v d → RelV v u → ∃ as, Reads s.heap u d as ∧ sysModules ∉ as
  | .none, _, _, h, r => by
    cases h; cases r
    exact ⟨_, Reads.none, List.not_mem_nil⟩
  | .bool b, _, _, h, r => by
    cases h; cases r
    exact ⟨_, Reads.bool b, List.not_mem_nil⟩
  | .int b, _, _, h, r => by
    cases h
    obtain ⟨t, rfl⟩ := r
    exact ⟨_, Reads.int b t, List.not_mem_nil⟩
  | .str b, _, _, h, r => by
    cases h
    obtain ⟨t, rfl⟩ := r
    exact ⟨_, Reads.str b t, List.not_mem_nil⟩
  | .list ds, _, _, h, r => by
    cases h with
    | lst hs _ ha =>
      cases r
      obtain ⟨its, rv, ⟨o, n, ho, hc, _, hd⟩, _⟩ := I.list (SqL.of hs)
      obtain ⟨as, hr, hn⟩ := DqAll.reads S I ds _ its ha rv
      refine ⟨_, Reads.list ho hc hd hr, fun z => ?_⟩
      rcases List.mem_cons.mp z with z | z
      · obtain ⟨o', k1, k2⟩ := S
        have e := I.kIn _ _ k1
        rw [z, ho] at e
        cases e
        exact absurd (Value.type.inj (hc.symm.trans k2)) (by decide)
      · exact hn z
  | .tuple ds, _, _, h, r => by
    cases h with
    | tup hs ha =>
      cases r
      obtain ⟨its, rv, ⟨o, ho, hc, n, hd⟩, _⟩ := I.tuple (SqT.of hs)
      obtain ⟨as, hr, hn⟩ := DqAll.reads S I ds _ its ha rv
      exact ⟨_, Reads.tuple ho hc hd hr, hn⟩
  | .dict ds, _, _, h, r => by
    cases h with
    | dic ha =>
      cases r
      obtain ⟨_, hne, vs, hkv, o, es, ep, h1, h2, h3, h4, h5, h6⟩ := dk_of I.hok ha
      cases hkv
      have e0 : es.toList = [] := by
        cases q : es.toList with
        | nil => rfl
        | cons x xs => rw [q] at h5; cases h5
      refine ⟨_, Reads.dict (es := es) (kvs := []) (as := []) (bs := []) h1 h2.1 h3 (by rw [e0]; exact ReadsAll.nil) (by rw [e0]; exact ReadsAll.nil), fun z => ?_⟩
      have z' : sysModules = _ := List.mem_singleton.mp (by simpa using z)
      rw [z'] at hne
      simp at hne
theorem DqAll.reads (S : SysD X.K) (I : Inv X pins σ H s) : ∀ (ds : List PyData) (vs : List V) (us : List Value), DqAll X.K H vs ds → Vals vs us → ∃ as, ReadsAll s.heap us ds as ∧ sysModules ∉ as
  | [], _, _, h, r => by
    cases h; cases r
    exact ⟨_, ReadsAll.nil, List.not_mem_nil⟩
  | d :: ds, _, _, h, r => by
    cases h with
    | cons h1 h2 =>
      cases r with
      | cons r1 r2 =>
        obtain ⟨as, q1, n1⟩ := Dq.reads S I d _ _ h1 r1
        obtain ⟨bs, q2, n2⟩ := DqAll.reads S I ds _ _ h2 r2
        refine ⟨_, ReadsAll.cons q1 q2, fun z => ?_⟩
        rcases List.mem_append.mp z with z | z
        · exact n1 z
        · exact n2 z
end
end
/-! ### sizes -/
mutual
def wt : PyData → Nat
  | .none | .bool _ | .int _ => 12
  | .str s => 10 * s.length + 12
  | .list ds | .tuple ds => 3 + wtAll ds
  | .dict _ => 12
def wtAll : List PyData → Nat
  | [] => 0
  | d :: ds => 2 + wt d + wtAll ds
end
theorem wtAll_append : ∀ ds es : List PyData, wtAll (ds ++ es) = wtAll ds + wtAll es
  | [], es => by rw [List.nil_append, wtAll, Nat.zero_add]
  | d :: ds, es => by rw [List.cons_append, wtAll, wtAll, wtAll_append ds es]; omega
theorem depthAll_append : ∀ ds es : List PyData, PyData.depthAll (ds ++ es) = max (PyData.depthAll ds) (PyData.depthAll es)
  | [], es => by rw [List.nil_append, PyData.depthAll, Nat.zero_max]
  | d :: ds, es => by rw [List.cons_append, PyData.depthAll, PyData.depthAll, depthAll_append ds es, Nat.max_assoc]
mutual
theorem Dq.size {K : PySem.W.Frag} {H : Hp} : ∀ (d : PyData) (v : V), Dq K H v d → d.showable = true ∧ d.shown.length ≤ wt d
  | .none, _, _ => ⟨rfl, Nat.le_trans Fit.non.sz (by rw [wt]; decide)⟩
  | .bool b, _, _ => ⟨rfl, Nat.le_trans (Fit.bl b).sz (by rw [wt]; decide)⟩
  | .int i, _, h => by
    cases h with
    | int _ h =>
      have := Fit.int (i := i) (k := 10) (by decide) (by decide) h
      exact ⟨this.s, Nat.le_trans this.sz (by rw [wt]; decide)⟩
  | .str s, _, h => by
    cases h with
    | str _ h =>
      obtain ⟨h1, h2⟩ := Bool.and_eq_true_iff.mp h
      have h3 : ∀ c ∈ s.cps.toList, c < 0x110000 := fun c hc => by
        have := List.all_eq_true.mp (show s.cps.toList.all (· < 0x110000) = true by rw [Array.all_toList]; exact h2) c hc
        exact of_decide_eq_true this
      have := Fit.str (x := s) (n := s.length) (Nat.le_refl _) h3
      refine ⟨rfl, Nat.le_trans this.sz ?_⟩
      rw [wt]; omega
  | .dict b, _, h => by
    cases h with
    | dic a => exact ⟨rfl, by rw [wt]; unfold PyData.shown; decide +kernel⟩
  | .list ds, _, h => by
    cases h with
    | lst a _ b =>
      obtain ⟨h1, h2, h3⟩ := DqAll.size ds _ b
      refine ⟨by rw [PyData.showable, h1], ?_⟩
      rw [PyData.shown, wt]
      have := listText_len_le (PyData.shownAll ds)
      omega
  | .tuple ds, _, h => by
    cases h with
    | tup a b =>
      obtain ⟨h1, h2, h3⟩ := DqAll.size ds _ b
      refine ⟨by rw [PyData.showable, h1], ?_⟩
      rw [PyData.shown, wt]
      have := tupleText_len_le (PyData.shownAll ds)
      omega
theorem DqAll.size {K : PySem.W.Frag} {H : Hp} : ∀ (ds : List PyData) (vs : List V), DqAll K H vs ds → PyData.showableAll ds = true ∧ ((PyData.shownAll ds).map (·.length)).sum + 2 * (PyData.shownAll ds).length ≤ wtAll ds ∧ True
  | [], _, _ => ⟨rfl, by rw [PyData.shownAll, wtAll]; decide, trivial⟩
  | d :: ds, _, h => by
    cases h with
    | cons a b =>
      obtain ⟨x1, x2⟩ := Dq.size d _ a
      obtain ⟨h1, h2, _⟩ := DqAll.size ds _ b
      refine ⟨by rw [PyData.showableAll, x1, h1]; rfl, ?_, trivial⟩
      rw [PyData.shownAll, wtAll, List.map_cons, List.sum_cons, List.length_cons]
      omega
end
/-! ### repr -/
def rReprQ (K : PySem.W.Frag) : List V → Hp → VK → Prop := fun xs H Q => ∃ (x : V) (d : PyData), xs = [x] ∧ Dq K H x d ∧ d.depth ≤ 50 ∧ wt d ≤ 1000000 ∧ Q (.str d.shown) H
theorem call_reprQ {X : Cx} {K : PySem.W.Frag} (hK : X.K = K) (S : SysD K) (hG : X.A.guards = some []) (hu : X.A.units + 64 < cLine) : CallR X (.builtin "repr") (rReprQ K) := by
  subst hK
  intro pins s σ H xs us Q I rv h
  obtain ⟨x, d, rfl, hd, hdp, hw, q⟩ := h
  obtain ⟨hs, hz'⟩ := hd.size
  have hz : d.shown.length ≤ sizeLine := Nat.le_trans (Nat.le_trans hz' hw) (by rw [sizeLine_eq]; decide)
  cases rv with
  | cons rx rn =>
    cases rn
    have fin : ∀ (tk : Nat) (u : Tok), EP X pins σ Q (.str d.shown u) { s with toks := tk } := fun tk u => ⟨.str d.shown, H, I.tok _, ⟨u, rfl⟩, q⟩
    obtain ⟨as, rd, hn⟩ := Dq.reads S I d x _ hd rx
    cases hd with
    | non => cases rx; exact PySem.P.repr_of_none (fin _ _)
    | bl b => cases rx; cases b <;> exact PySem.P.repr_of_bool (fin _ _)
    | int i _ =>
      obtain ⟨t, rfl⟩ := rx
      rw [PyData.showable] at hs
      exact PySem.P.repr_of_int (of_decide_eq_true hs) (fin _ _)
    | str y _ => obtain ⟨t, rfl⟩ := rx; exact PySem.P.repr_of_str (fin _ _) hz
    | lst ha _ hb =>
      cases rx
      exact repr_of_reads' rd hs (fun _ => hn) hG (by omega) (fun _ _ z => z) (fun h' u tk hk => ⟨.str _, H, I.kept (t' := tk) hk, ⟨u, rfl⟩, q⟩) hz
    | tup ha hb =>
      cases rx
      exact repr_of_reads' rd hs (fun _ => hn) hG (by omega) (fun _ _ z => z) (fun h' u tk hk => ⟨.str _, H, I.kept (t' := tk) hk, ⟨u, rfl⟩, q⟩) hz
    | dic ha =>
      cases rx
      exact repr_of_reads' rd hs (fun _ => hn) hG (by omega) (fun _ _ z => z) (fun h' u tk hk => ⟨.str _, H, I.kept (t' := tk) hk, ⟨u, rfl⟩, q⟩) hz
/-! ### a tuple beside the empty one -/
def rEqE (K : PySem.W.Frag) : R2 := fun x y H Q => ∃ (a b : Addr) (xs : List V), x = .ref a ∧ y = .ref b ∧ SqT K H a xs ∧ SqT K H b [] ∧ Q (.bl (decide (xs = []))) H
theorem op_eqE {X : Cx} (hu : X.A.units + 64 < cLine) : OpR X (compareOp .Eq) (rEqE X.K) := by
  intro pins s σ H x y v u Q I rx ry h
  obtain ⟨a, b, xs, rfl, rfl, ha, hb, q⟩ := h
  cases rx
  cases ry
  obtain ⟨its, rv, tu, _⟩ := I.tuple ha
  obtain ⟨its2, rv2, tu2, _⟩ := I.tuple hb
  cases rv2
  refine SeqAt.eq_tupleAt (e := fun _ => true) tu tu2 (by omega) (fun j _ h2 => (Nat.not_lt_zero _ h2).elim) ?_
  refine ⟨.bl (decide (xs = [])), H, I, ?_, q⟩
  show Value.bool _ = Value.bool _
  congr 1
  have hl := rv.length
  cases xs with
  | nil =>
    cases rv
    rfl
  | cons a r =>
    cases its with
    | nil => cases rv
    | cons b t => simp
def rNeE (K : PySem.W.Frag) : R2 := fun x y H Q => ∃ (a b : Addr) (xs : List V), x = .ref a ∧ y = .ref b ∧ SqT K H a xs ∧ SqT K H b [] ∧ Q (.bl (!decide (xs = []))) H
theorem op_neE {X : Cx} (hu : X.A.units + 64 < cLine) : OpR X (compareOp .NotEq) (rNeE X.K) := by
  intro pins s σ H x y v u Q I rx ry h
  obtain ⟨a, b, xs, rfl, rfl, ha, hb, q⟩ := h
  cases rx
  cases ry
  obtain ⟨its, rv, tu, _⟩ := I.tuple ha
  obtain ⟨its2, rv2, tu2, _⟩ := I.tuple hb
  cases rv2
  refine SeqAt.RcNeAt.tuples (e := fun _ => true) tu tu2 (by omega) (fun j _ h2 => (Nat.not_lt_zero _ h2).elim) X.prog X.w _ _ ?_
  refine ⟨.bl (!decide (xs = [])), H, I, ?_, q⟩
  show Value.bool _ = Value.bool _
  congr 1
  have hl := rv.length
  cases xs with
  | nil =>
    cases rv
    rfl
  | cons a r =>
    cases its with
    | nil => cases rv
    | cons b t => simp
/-! ### x in a tuple of data -/
def rInT (K : PySem.W.Frag) : R2 := fun x y H Q => ∃ d ds, Dp K H x d ∧ Dp K H y (.tuple ds) ∧ SeqAt.shaped d = true ∧ SeqAt.shaped (.tuple ds) = true ∧ Q (.bl (ds.any fun z => PyData.eqv z d)) H
def rNotInT (K : PySem.W.Frag) : R2 := fun x y H Q => ∃ d ds, Dp K H x d ∧ Dp K H y (.tuple ds) ∧ SeqAt.shaped d = true ∧ SeqAt.shaped (.tuple ds) = true ∧ Q (.bl (!ds.any fun z => PyData.eqv z d)) H
theorem op_inT {X : Cx} (hu : X.A.units + 65 < cLine) : OpR X (compareOp .In) (rInT X.K) := by
  intro pins s σ H x y v u Q I rx ry h
  obtain ⟨d, ds, hd, he, sd, se, q⟩ := h
  obtain ⟨as, r1⟩ := Dp.reads I d x v hd rx
  obtain ⟨bs, r2⟩ := Dp.reads I (.tuple ds) y u he ry
  exact SeqAt.in_tuple_reads r2 r1 (SeqAt.canLay_of_shaped se) (SeqAt.canLay_of_shaped sd) (room_in_shaped sd hu) ⟨.bl _, H, I, rfl, q⟩
theorem op_notInT {X : Cx} (hu : X.A.units + 65 < cLine) : OpR X (compareOp .NotIn) (rNotInT X.K) := by
  intro pins s σ H x y v u Q I rx ry h
  obtain ⟨d, ds, hd, he, sd, se, q⟩ := h
  obtain ⟨as, r1⟩ := Dp.reads I d x v hd rx
  obtain ⟨bs, r2⟩ := Dp.reads I (.tuple ds) y u he ry
  exact SeqAt.notIn_tuple_reads r2 r1 (SeqAt.canLay_of_shaped se) (SeqAt.canLay_of_shaped sd) (room_in_shaped sd hu) ⟨.bl _, H, I, rfl, q⟩
end Dq

set_option Elab.async false
set_option linter.all false
set_option maxRecDepth 100000
set_option maxHeartbeats 2000000
/-! trees of programs as data -/
namespace K39
open PySem PySem.Spec PyProof.Rows L2 Rd Dt Dq
def abc : Str := "abcdefghijklmnopqrstuvwxyz"
def isLetterS (s : Str) : Bool := match s.cps.toList with
  | [c] => decide (c ∈ abc.cps.toList)
  | _ => false
def isLetter : PyData → Bool
  | .str s => isLetterS s
  | _ => false
def isGoal : PyData → Bool
  | .str s => isLetterS s || decide (s = "END")
  | _ => false
def deedRest (k : Str) : List PyData → Bool
  | [b] => if k = "next" then isLetter b else (decide (k = "copy") || decide (k = "tie")) && isGoal b
  | _ => false
def isDeed : PyData → Bool
  | .tuple (.str k :: a :: r) => isLetter a && (if k = "new" ∨ k = "drop" then r.isEmpty else deedRest k r)
  | _ => false
def isComp : PyData → Bool
  | .tuple [.str s, a, b] => (decide (s = "=") || decide (s = "!=")) && (isLetter a && isGoal b)
  | _ => false
def isTest : PyData → Bool
  | .tuple [.str k, .tuple cs] => (decide (k = "and") || decide (k = "or")) && (decide (1 ≤ cs.length ∧ cs.length ≤ 3) && (!(decide (cs.length = 1) && decide (k = "or")) && cs.all isComp))
  | _ => false
def treeOf (f : PyData → Bool) : PyData → Bool
  | .tuple ds => ds.all f
  | _ => false
def isSt : Nat → PyData → Bool
  | 0, d => isDeed d
  | n + 1, d => isDeed d || match d with
    | .tuple [.str k, t, a, b] => decide (k = "if") && (isTest t && (treeOf (isSt n) a && treeOf (isSt n) b))
    | .tuple [.str k, t, a] => decide (k = "while") && (isTest t && treeOf (isSt n) a)
    | _ => false
def cntOf (f : PyData → Nat) : PyData → Nat
  | .tuple ds => (ds.map f).sum
  | _ => 0
def cntSt : Nat → PyData → Nat
  | 0, _ => 1
  | n + 1, d => match d with
    | .tuple [.str k, _, a, b] => if k = "if" then 1 + (cntOf (cntSt n) a + cntOf (cntSt n) b) else 1
    | .tuple [.str k, _, a] => if k = "while" then 1 + cntOf (cntSt n) a else 1
    | _ => 1
def strOf : PyData → Str
  | .str s => s
  | _ => Str.empty
def deedText : PyData → Str
  | .tuple [.str k, a] => if k = "new" then strOf a ++ " = new" else "drop " ++ strOf a
  | .tuple [.str k, a, b] => if k = "next" then strOf a ++ " = next " ++ strOf b else (if k = "tie" then ("next " : Str) else "") ++ strOf a ++ " = " ++ strOf b
  | _ => Str.empty
def compText : PyData → Str
  | .tuple [s, a, b] => strOf a ++ " " ++ strOf s ++ " " ++ strOf b
  | _ => Str.empty
def testText : PyData → Str
  | .tuple [k, .tuple cs] => Txt.join (" " ++ strOf k ++ " ") (cs.map compText)
  | _ => Str.empty
def treeTextOf (f : PyData → Str) : PyData → Str
  | .tuple ds => if ds = [] then "none" else Txt.join "; " (ds.map f)
  | _ => Str.empty
def noRows : PyData → Bool
  | .tuple ds => ds.isEmpty
  | _ => false
def stText : Nat → PyData → Str
  | 0, d => deedText d
  | n + 1, d => match d with
    | .tuple [.str k, t, a, b] => if k = "if" then ("if " ++ testText t ++ " { " ++ treeTextOf (stText n) a ++ " }") ++ (if noRows b = true then ("" : Str) else " else { " ++ treeTextOf (stText n) b ++ " }") else deedText d
    | .tuple [.str k, t, a] => if k = "while" then "while " ++ testText t ++ " { " ++ treeTextOf (stText n) a ++ " }" else deedText d
    | _ => deedText d
/-! ### bounds of the texts -/
structure Tok (s : Str) (n : Nat) : Prop where
  len : s.length ≤ n
  ok : PyData.strOk s = true
theorem Tok.mono {s : Str} {n m : Nat} (t : Tok s n) (h : n ≤ m) : Tok s m := ⟨Nat.le_trans t.len h, t.ok⟩
theorem strOk_append {a b : Str} (h : PyData.strOk a = true) (g : PyData.strOk b = true) : PyData.strOk (a ++ b) = true := by
  unfold PyData.strOk at *
  rw [Str.cps_append, Array.all_append, h, g]; rfl
theorem Tok.app {a b : Str} {n m : Nat} (h : Tok a n) (g : Tok b m) : Tok (a ++ b) (n + m) := ⟨by rw [Str.length_append]; exact Nat.add_le_add h.len g.len, strOk_append h.ok g.ok⟩
theorem join_ok {sep : Str} (hs : PyData.strOk sep = true) : ∀ ys : List Str, (∀ y ∈ ys, PyData.strOk y = true) → PyData.strOk (Str.join sep ys) = true
  | [], _ => by
    show PyData.strOk Str.empty = true
    decide +kernel
  | [x], h => h x List.mem_cons_self
  | x :: y :: r, h => by
    show PyData.strOk (x ++ sep ++ Str.join sep (y :: r)) = true
    exact strOk_append (strOk_append (h x List.mem_cons_self) hs) (join_ok hs (y :: r) fun z hz => h z (List.mem_cons_of_mem _ hz))
theorem sum_map_le {α : Type} (f g : α → Nat) : ∀ l : List α, (∀ x ∈ l, f x ≤ g x) → (l.map f).sum ≤ (l.map g).sum
  | [], _ => Nat.le_refl _
  | x :: l, h => by
    simp only [List.map_cons, List.sum_cons]
    exact Nat.add_le_add (h x List.mem_cons_self) (sum_map_le f g l fun y hy => h y (List.mem_cons_of_mem _ hy))
theorem join_tok {sep : Str} {n : Nat} {ys : List Str} (hs : PyData.strOk sep = true) (h : ∀ y ∈ ys, PyData.strOk y = true) (hl : (ys.map (·.length)).sum + ys.length * sep.length ≤ n) : Tok (Txt.join sep ys) n := by
  have e : Txt.join sep ys = Str.join sep ys := StrLaws.glued_eq_join sep ys
  rw [e]
  exact ⟨Nat.le_trans (StrLaws.join_length_le sep ys) hl, join_ok hs ys h⟩
theorem letter_tok {d : PyData} (h : isLetter d = true) : ∃ s, d = .str s ∧ Tok s 1 := by
  cases d with
  | str s =>
    refine ⟨s, rfl, ?_⟩
    have h' : isLetterS s = true := h
    unfold isLetterS at h'
    split at h'
    · rename_i c e
      refine ⟨?_, ?_⟩
      · show s.cps.size ≤ 1
        rw [← Array.length_toList, e]
        exact Nat.le_refl _
      · unfold PyData.strOk
        rw [← Array.all_toList, e]
        have m : c ∈ abc.cps.toList := of_decide_eq_true h'
        have all : ∀ c ∈ abc.cps.toList, c < 0x110000 := by decide +kernel
        simp only [List.all_cons, List.all_nil, Bool.and_true, decide_eq_true_eq]
        exact all c m
    · cases h'
  | _ => cases h
theorem goal_tok {d : PyData} (h : isGoal d = true) : ∃ s, d = .str s ∧ Tok s 3 := by
  cases d with
  | str s =>
    refine ⟨s, rfl, ?_⟩
    rcases Bool.or_eq_true_iff.mp (show (isLetterS s || decide (s = "END")) = true from h) with z | z
    · obtain ⟨s', e, t⟩ := letter_tok (d := .str s) z
      cases e
      exact t.mono (by decide)
    · rw [of_decide_eq_true z]
      exact ⟨by decide +kernel, by decide +kernel⟩
  | _ => cases h
theorem deed_cases {d : PyData} (h : isDeed d = true) : (∃ (k a : Str), d = .tuple [.str k, .str a] ∧ isLetterS a = true ∧ (k = "new" ∨ k = "drop")) ∨
    (∃ (k a b : Str), d = .tuple [.str k, .str a, .str b] ∧ isLetterS a = true ∧ ((k = "next" ∧ isLetterS b = true) ∨ ((k = "copy" ∨ k = "tie") ∧ isGoal (.str b) = true))) := by
  unfold isDeed at h
  split at h
  · rename_i k a r
    obtain ⟨h1, h2⟩ := Bool.and_eq_true_iff.mp h
    obtain ⟨s, rfl, _⟩ := letter_tok h1
    split at h2
    · rename_i hk
      cases r with
      | nil => exact .inl ⟨k, s, rfl, h1, hk⟩
      | cons x y => cases h2
    · unfold deedRest at h2
      split at h2
      · rename_i b
        split at h2
        · rename_i hn
          obtain ⟨s', rfl, _⟩ := letter_tok h2
          exact .inr ⟨k, s, s', rfl, h1, .inl ⟨hn, h2⟩⟩
        · obtain ⟨h3, h4⟩ := Bool.and_eq_true_iff.mp h2
          obtain ⟨s', rfl, _⟩ := goal_tok h4
          refine .inr ⟨k, s, s', rfl, h1, .inr ⟨?_, h4⟩⟩
          rcases Bool.or_eq_true_iff.mp h3 with z | z
          · exact .inl (of_decide_eq_true z)
          · exact .inr (of_decide_eq_true z)
      · cases h2
  · cases h
theorem st_cases {n : Nat} {d : PyData} (h : isSt (n + 1) d = true) : isDeed d = true ∨ (∃ t a b, d = .tuple [.str "if", t, a, b] ∧ isTest t = true ∧ treeOf (isSt n) a = true ∧ treeOf (isSt n) b = true) ∨
    (∃ t a, d = .tuple [.str "while", t, a] ∧ isTest t = true ∧ treeOf (isSt n) a = true) := by
  unfold isSt at h
  rcases Bool.or_eq_true_iff.mp h with z | z
  · exact .inl z
  · split at z
    · rename_i k t a b
      simp only [Bool.and_eq_true, decide_eq_true_eq] at z
      obtain ⟨rfl, z2, z3, z4⟩ := z
      exact .inr (.inl ⟨t, a, b, rfl, z2, z3, z4⟩)
    · rename_i k t a
      simp only [Bool.and_eq_true, decide_eq_true_eq] at z
      obtain ⟨rfl, z2, z3⟩ := z
      exact .inr (.inr ⟨t, a, rfl, z2, z3⟩)
    · cases z
theorem ne_if {k : Str} (h : k = "next" ∨ k = "copy" ∨ k = "tie" ∨ k = "new" ∨ k = "drop") : k ≠ "if" ∧ k ≠ "while" := by
  rcases h with rfl | rfl | rfl | rfl | rfl <;> exact ⟨by decide, by decide⟩
theorem deed_plain {d : PyData} (h : isDeed d = true) : ∀ n, cntSt n d = 1 ∧ stText n d = deedText d := by
  intro n
  cases n with
  | zero => exact ⟨rfl, rfl⟩
  | succ n =>
    rcases deed_cases h with ⟨k, a, rfl, _, _⟩ | ⟨k, a, b, rfl, _, hk⟩
    · exact ⟨rfl, rfl⟩
    · have := ne_if (k := k) (by rcases hk with ⟨z, _⟩ | ⟨z | z, _⟩ <;> simp [z])
      exact ⟨by unfold cntSt; exact if_neg this.2, by unfold stText; exact if_neg this.2⟩
theorem deed_tok {d : PyData} (h : isDeed d = true) : Tok (deedText d) 16 := by
  rcases deed_cases h with ⟨k, a, rfl, ha, _⟩ | ⟨k, a, b, rfl, ha, hb⟩
  · obtain ⟨a', e, ta⟩ := letter_tok (d := .str a) ha
    cases e
    show Tok (if k = "new" then a ++ " = new" else "drop " ++ a) 16
    have l1 : Tok " = new" 6 := ⟨by decide, by decide +kernel⟩
    have l2 : Tok "drop " 5 := ⟨by decide, by decide +kernel⟩
    split
    · exact (ta.app l1).mono (by decide)
    · exact (l2.app ta).mono (by decide)
  · obtain ⟨a', e, ta⟩ := letter_tok (d := .str a) ha
    cases e
    have tb : Tok b 3 := by
      rcases hb with ⟨_, z⟩ | ⟨_, z⟩
      · obtain ⟨b', e, tb⟩ := letter_tok (d := .str b) z
        cases e; exact tb.mono (by decide)
      · obtain ⟨b', e, tb⟩ := goal_tok z
        cases e; exact tb
    show Tok (if k = "next" then a ++ " = next " ++ b else (if k = "tie" then ("next " : Str) else "") ++ a ++ " = " ++ b) 16
    have l1 : Tok " = next " 8 := ⟨by decide, by decide +kernel⟩
    have l2 : Tok " = " 3 := ⟨by decide, by decide +kernel⟩
    have l3 : Tok (if k = "tie" then ("next " : Str) else "") 5 := by
      split
      · exact ⟨by decide, by decide +kernel⟩
      · exact ⟨by decide, by decide +kernel⟩
    split
    · exact ((ta.app l1).app tb).mono (by decide)
    · exact (((l3.app ta).app l2).app tb).mono (by decide)
theorem comp_cases {d : PyData} (h : isComp d = true) : ∃ (s a b : Str), d = .tuple [.str s, .str a, .str b] ∧ (s = "=" ∨ s = "!=") ∧ isLetterS a = true ∧ isGoal (.str b) = true := by
  unfold isComp at h
  split at h
  · rename_i s a b
    obtain ⟨h1, h2⟩ := Bool.and_eq_true_iff.mp h
    obtain ⟨h3, h4⟩ := Bool.and_eq_true_iff.mp h2
    obtain ⟨a', rfl, _⟩ := letter_tok h3
    obtain ⟨b', rfl, _⟩ := goal_tok h4
    refine ⟨s, a', b', rfl, ?_, h3, h4⟩
    rcases Bool.or_eq_true_iff.mp h1 with z | z
    · exact .inl (of_decide_eq_true z)
    · exact .inr (of_decide_eq_true z)
  · cases h
theorem comp_tok {d : PyData} (h : isComp d = true) : Tok (compText d) 8 := by
  obtain ⟨s, a, b, rfl, hs, ha, hb⟩ := comp_cases h
  obtain ⟨a', e, ta⟩ := letter_tok (d := .str a) ha
  cases e
  obtain ⟨b', e, tb⟩ := goal_tok hb
  cases e
  have ts : Tok s 2 := by
    rcases hs with rfl | rfl
    · exact ⟨by decide, by decide +kernel⟩
    · exact ⟨by decide, by decide +kernel⟩
  unfold compText
  exact ((((ta.app (m := 1) ⟨by decide, by decide +kernel⟩).app ts).app (m := 1) ⟨by decide, by decide +kernel⟩).app tb).mono (by decide)
theorem test_cases {d : PyData} (h : isTest d = true) : ∃ (k : Str) (cs : List PyData), d = .tuple [.str k, .tuple cs] ∧ (k = "and" ∨ k = "or") ∧ (1 ≤ cs.length ∧ cs.length ≤ 3) ∧ ∀ c ∈ cs, isComp c = true := by
  unfold isTest at h
  split at h
  · rename_i k cs
    simp only [Bool.and_eq_true, Bool.or_eq_true, decide_eq_true_eq, List.all_eq_true] at h
    exact ⟨k, cs, rfl, h.1, h.2.1, h.2.2.2⟩
  · cases h
theorem sum_const {α : Type} (f : α → Nat) (c : Nat) : ∀ l : List α, (∀ x ∈ l, f x ≤ c) → (l.map f).sum ≤ l.length * c
  | [], _ => Nat.zero_le _
  | x :: l, h => by
    simp only [List.map_cons, List.sum_cons, List.length_cons]
    have := sum_const f c l fun y hy => h y (List.mem_cons_of_mem _ hy)
    have := h x List.mem_cons_self
    rw [Nat.add_mul]; omega
theorem test_tok {d : PyData} (h : isTest d = true) : Tok (testText d) 40 := by
  obtain ⟨k, cs, rfl, hk, hl, hc⟩ := test_cases h
  have tk : Tok (" " ++ k ++ " ") 5 := by
    rcases hk with rfl | rfl
    · exact ⟨by decide, by decide +kernel⟩
    · exact ⟨by decide, by decide +kernel⟩
  unfold testText
  refine join_tok tk.ok (fun y hy => ?_) ?_
  · obtain ⟨c, h1, rfl⟩ := List.mem_map.mp hy
    exact (comp_tok (hc c h1)).ok
  · rw [List.map_map, List.length_map]
    have h1 := sum_const ((fun x : Str => x.length) ∘ compText) 8 cs fun c h1 => (comp_tok (hc c h1)).len
    have h2 : cs.length * (" " ++ strOf (.str k) ++ " ").length ≤ 3 * 5 := Nat.mul_le_mul hl.2 tk.len
    have h3 : cs.length * 8 ≤ 24 := by omega
    omega
theorem cntSt_pos (n : Nat) (d : PyData) : 1 ≤ cntSt n d := by
  cases n with
  | zero => exact Nat.le_refl _
  | succ n =>
    unfold cntSt
    split
    · split <;> omega
    · split <;> omega
    · omega
theorem tree_tok {n B : Nat} (ih : ∀ d, isSt n d = true → Tok (stText n d) (B * cntSt n d)) {d : PyData} (h : treeOf (isSt n) d = true) : Tok (treeTextOf (stText n) d) ((B + 2) * cntOf (cntSt n) d + 4) := by
  cases d with
  | tuple ds =>
    have h' : ∀ x ∈ ds, isSt n x = true := List.all_eq_true.mp h
    unfold treeTextOf
    dsimp only
    split
    · exact (Tok.mono (n := 4) ⟨by decide, by decide +kernel⟩ (Nat.le_add_left _ _))
    · refine join_tok (by decide +kernel) (fun y hy => ?_) ?_
      · obtain ⟨c, h1, rfl⟩ := List.mem_map.mp hy
        exact (ih c (h' c h1)).ok
      · rw [List.map_map, List.length_map]
        have h1 := sum_map_le ((fun x : Str => x.length) ∘ stText n) (fun d => B * cntSt n d) ds fun c hc => (ih c (h' c hc)).len
        have h2 : ∀ l : List PyData, (l.map fun d => B * cntSt n d).sum = B * (l.map (cntSt n)).sum := fun l => by
          induction l with
          | nil => rfl
          | cons x l ih => simp only [List.map_cons, List.sum_cons, ih, Nat.mul_add]
        have h3 : ∀ l : List PyData, l.length ≤ (l.map (cntSt n)).sum := fun l => by
          induction l with
          | nil => exact Nat.le_refl _
          | cons x l ih =>
            simp only [List.map_cons, List.sum_cons, List.length_cons]
            have := cntSt_pos n x
            omega
        rw [h2] at h1
        have h4 := h3 ds
        have e : (Str.ofString "; ").length = 2 := by decide
        rw [e]
        show _ ≤ (B + 2) * (ds.map (cntSt n)).sum + 4
        rw [Nat.add_mul]
        omega
  | _ => cases h
theorem st_tok : ∀ (n : Nat) (d : PyData), isSt n d = true → Tok (stText n d) ((64 + 2 * n) * cntSt n d)
  | 0, d, h => by
    show Tok (deedText d) ((64 + 2 * 0) * 1)
    exact (deed_tok h).mono (by decide)
  | n + 1, d, h => by
    rcases st_cases h with z | ⟨t, a, b, rfl, ht, ha, hb⟩ | ⟨t, a, rfl, ht, ha⟩
    · rw [(deed_plain z (n + 1)).1, (deed_plain z (n + 1)).2]
      exact (deed_tok z).mono (by omega)
    · have ta := tree_tok (st_tok n) ha
      have tb := tree_tok (st_tok n) hb
      have tt := test_tok ht
      have e1 : cntSt (n + 1) (.tuple [.str "if", t, a, b]) = 1 + (cntOf (cntSt n) a + cntOf (cntSt n) b) := by unfold cntSt; exact if_pos rfl
      have e2 : stText (n + 1) (.tuple [.str "if", t, a, b]) = ("if " ++ testText t ++ " { " ++ treeTextOf (stText n) a ++ " }") ++ (if noRows b = true then ("" : Str) else " else { " ++ treeTextOf (stText n) b ++ " }") := by conv => { lhs; unfold stText }; exact if_pos rfl
      rw [e1, e2]
      have t2 : Tok (if noRows b = true then ("" : Str) else " else { " ++ treeTextOf (stText n) b ++ " }") (8 + ((64 + 2 * n + 2) * cntOf (cntSt n) b + 4) + 2) := by
        split
        · exact Tok.mono (n := 0) ⟨by decide, by decide +kernel⟩ (Nat.zero_le _)
        · exact (Tok.app (n := 8) ⟨by decide, by decide +kernel⟩ tb).app (m := 2) ⟨by decide, by decide +kernel⟩
      refine (((((Tok.app (n := 3) ⟨by decide, by decide +kernel⟩ tt).app (m := 3) ⟨by decide, by decide +kernel⟩).app ta).app (m := 2) ⟨by decide, by decide +kernel⟩).app t2).mono ?_
      have x1 : (64 + 2 * (n + 1)) * (1 + (cntOf (cntSt n) a + cntOf (cntSt n) b)) = (64 + 2 * n + 2) + ((64 + 2 * n + 2) * cntOf (cntSt n) a + (64 + 2 * n + 2) * cntOf (cntSt n) b) := by
        rw [show 64 + 2 * (n + 1) = 64 + 2 * n + 2 by omega, Nat.mul_add, Nat.mul_one, Nat.mul_add]
      rw [x1]
      generalize (64 + 2 * n + 2) * cntOf (cntSt n) a = A
      generalize (64 + 2 * n + 2) * cntOf (cntSt n) b = B
      omega
    · have ta := tree_tok (st_tok n) ha
      have tt := test_tok ht
      have e1 : cntSt (n + 1) (.tuple [.str "while", t, a]) = 1 + cntOf (cntSt n) a := by unfold cntSt; exact if_pos rfl
      have e2 : stText (n + 1) (.tuple [.str "while", t, a]) = "while " ++ testText t ++ " { " ++ treeTextOf (stText n) a ++ " }" := by conv => { lhs; unfold stText }; exact if_pos rfl
      rw [e1, e2]
      refine ((((Tok.app (n := 6) ⟨by decide, by decide +kernel⟩ tt).app (m := 3) ⟨by decide, by decide +kernel⟩).app ta).app (m := 2) ⟨by decide, by decide +kernel⟩).mono ?_
      have x1 : (64 + 2 * (n + 1)) * (1 + cntOf (cntSt n) a) = (64 + 2 * n + 2) + (64 + 2 * n + 2) * cntOf (cntSt n) a := by
        rw [show 64 + 2 * (n + 1) = 64 + 2 * n + 2 by omega, Nat.mul_add, Nat.mul_one]
      rw [x1]
      omega
end K39

set_option Elab.async false
set_option linter.all false
set_option maxRecDepth 100000
set_option maxHeartbeats 2000000
/-! isinstance of a caught error that has fields -/
namespace Exx
open PySem PySem.Spec PyProof.Rows L2 Rd
def rIsX (K : PySem.W.Frag) (C a : Addr) (cls : Value) (d : Option Addr) : List V → Hp → VK → Prop := fun xs H Q => ∃ (c : V) (cv : Value) (b : Bool) (dd : Addr) (fs : List (Str × V)), xs = [.ref a, c] ∧ cls = .ref C ∧ (∀ u, RelV c u → u = cv) ∧ d = some dd ∧ H dd = some (.xd fs) ∧ PySem.W.kitOne K (.ref C) cv = some b ∧ Q (.bl b) H
theorem call_isX {X : Cx} {a C : Addr} {oe : Obj} {cls : Value} {d : Option Addr} {pn : List (Addr × Obj)} (E : ExcC X.K C) (hz : Zc cls d oe) (hf : ∃ vs, oe.data = .fields vs) : CallR (X.suite a ((a, oe) :: pn)) (.builtin "isinstance") (rIsX X.K C a cls d) := by
  intro pins s σ H xs us Q I r h
  obtain ⟨c, cv, b, dd, fs, rfl, ec, hcv, ed, hd, e, q⟩ := h
  subst ec ed
  cases r with
  | cons rx rr =>
    cases rr with
    | cons rt rr =>
      cases rr
      cases rx
      have ec := hcv _ rt
      subst ec
      obtain ⟨hget, _⟩ := I.pin (a, oe) (List.mem_append_left _ List.mem_cons_self)
      obtain ⟨vs, hv⟩ := hf
      have hx : ObjOk X.prog X.w H s.heap dd (.xd fs) := I.hok dd _ hd
      obtain ⟨mA, hns, hr⟩ := hx
      obtain ⟨od, ho, hl⟩ := lookIn_ns hns
      have J : PySem.W.InstAt s.heap a oe C (some od) := ⟨hget, hz.1, by unfold PySem.W.notCls; rw [hv] <;> rfl, by rw [hz.2]; exact ho⟩
      have hcl : (PySem.W.clsIn X.K C).isSome = true := by
        obtain ⟨cd, hc, _⟩ := PySem.W.any_some E.hd
        rw [hc]; rfl
      exact PySem.W.kia_one (PySem.W.kitx_exc (od := some od) hcl E.hg E.hk E.hs E.ha E.hn E.ht E.hm) I.kIn J e (fun z => nomatch z) fun tk => ⟨.bl b, H, I.kept (t' := tk) fun _ _ z => z, rfl, q⟩
def exB (K : PySem.W.Frag) (C : Addr) : Bool := decide (PySem.W.findIn K (.ref C) "__getattribute__" = some (some (.builtin "BaseException.__getattribute__"))) && (decide (PySem.W.findIn K (.ref C) "__getattr__" = some none) && (decide (PySem.W.subIn K (.ref C) (.type "BaseException") = some true) &&
  (PySem.W.hasDictIn K C && (decide (PySem.W.findIn K (.ref C) "__class__" = some (some (.builtin "object.__class__"))) && (decide (PySem.W.specialIn K (.builtin "object.__class__") "__get__" = some (some (.builtin "getset_descriptor.__get__"))) && (decide (PySem.W.takesIn K (.builtin "object.__class__") = some true) && decide (PySem.W.mroIn K C (.type "object") = some true)))))))
theorem exB_ok {K : PySem.W.Frag} {C : Addr} (h : exB K C = true) : ExcC K C := by
  unfold exB at h
  simp only [Bool.and_eq_true, decide_eq_true_eq] at h
  obtain ⟨h1, h2, h3, h4, h5, h6, h7, h8⟩ := h
  exact ⟨h1, h2, h3, h4, h5, h6, h7, h8⟩
/-- what a table of the written part says of an own error -/
def oexB (K : PySem.W.Frag) (C : Addr) : Bool := (match K.lookup C with
  | some ⟨.type "type", _, .cls cd, sl⟩ => (match cd.mro, sl.toList with
    | .ref C' :: bm, [_, _, _, _, some (.builtin n), _] => decide (C' = C) && (decide (n = "ValueError.__new__") && (cd.hasDict && (!cd.hasDel && PySem.HandSPX.refsVE bm)))
    | _, _ => false)
  | _ => false) && (decide (PySem.W.findIn K (.ref C) "__setattr__" = some (some (.builtin "object.__setattr__"))) && (decide (PySem.W.subIn K (.ref C) (.type "BaseException") = some true) && (decide (PySem.W.typeIn K (.ref C) = some (.type "type")) && PySem.W.keepIn K (.ref C))))
theorem oexB_ok {K : PySem.W.Frag} {C : Addr} (h : oexB K C = true) : OexC K C := by
  unfold oexB at h
  obtain ⟨h1, h⟩ := Bool.and_eq_true_iff.mp h
  obtain ⟨h2, h⟩ := Bool.and_eq_true_iff.mp h
  obtain ⟨h3, h⟩ := Bool.and_eq_true_iff.mp h
  obtain ⟨h4, h5⟩ := Bool.and_eq_true_iff.mp h
  refine ⟨?_, of_decide_eq_true h2, of_decide_eq_true h3, of_decide_eq_true h4, h5⟩
  split at h1
  · rename_i dd cd sl ho
    split at h1
    · rename_i C' bm k0 k1 k2 k3 n k5 hm hs
      obtain ⟨nm, bs, mro, ns, qn, hd, sn, sb, ab, col, del⟩ := cd
      obtain ⟨sl⟩ := sl
      dsimp only at h1 hm hs
      subst hm hs
      obtain ⟨e1, h1⟩ := Bool.and_eq_true_iff.mp h1
      obtain ⟨e2, h1⟩ := Bool.and_eq_true_iff.mp h1
      obtain ⟨e3, h1⟩ := Bool.and_eq_true_iff.mp h1
      obtain ⟨e4, e5⟩ := Bool.and_eq_true_iff.mp h1
      have e1' := of_decide_eq_true e1
      have e2' := of_decide_eq_true e2
      subst e1' e2'
      cases hd with
      | false => cases e3
      | true =>
        cases del with
        | true => cases e4
        | false => exact ⟨nm, qn, ns, bs, bm, sn, sb, ab, col, dd, k0, k1, k2, k3, k5, ho, e5⟩
    · cases h1
  · cases h1
/-- all that is asked of an own error's class, by its name and its field's -/
def erB (K : PySem.W.Frag) (x n : Str) : Bool := oexB K (He.ga K x) && (decide (PySem.W.findIn K (.ref (He.ga K x)) n = some none) && (decide (PySem.W.findIn K (.ref (He.ga K x)) "__init__" = some (some (.ref (He.ma K (He.ga K x) "__init__")))) &&
  (decide (PySem.W.typeIn K (.ref (He.ma K (He.ga K x) "__init__")) = some (.type "function")) && (xfB K (He.ga K x) && (exB K (He.ga K x) && decide (PySem.W.exmOne K (.ref (He.ga K x)) (.ref (He.ga K x)) = some true))))))
structure ErT (K : PySem.W.Frag) (x n : Str) : Prop where
  oex : OexC K (He.ga K x)
  noN : PySem.W.findIn K (.ref (He.ga K x)) n = some none
  iC : PySem.W.findIn K (.ref (He.ga K x)) "__init__" = some (some (.ref (He.ma K (He.ga K x) "__init__")))
  tI : PySem.W.typeIn K (.ref (He.ma K (He.ga K x) "__init__")) = some (.type "function")
  xf : XfC K (He.ga K x)
  ex : ExcC K (He.ga K x)
  te : PySem.W.exmOne K (.ref (He.ga K x)) (.ref (He.ga K x)) = some true
theorem erB_ok {K : PySem.W.Frag} {x n : Str} (h : erB K x n = true) : ErT K x n := by
  unfold erB at h
  simp only [Bool.and_eq_true, decide_eq_true_eq] at h
  obtain ⟨h1, h2, h3, h4, h5, h6, h7⟩ := h
  exact ⟨oexB_ok h1, h2, h3, h4, xfB_ok h5, exB_ok h6, h7⟩
end Exx

set_option Elab.async false
set_option linter.all false
set_option maxRecDepth 100000
set_option maxHeartbeats 2000000
/-! one of a row: of a list, a tuple, a text -/
namespace Pk
open PySem PySem.Spec PyProof.Rows L2 Rd
def rIxO (r r' : R2) : R2 := fun x y H Q => r x y H Q ∨ r' x y H Q
theorem IxR_or {X : Cx} {r r' : R2} (h : IxR X r) (h' : IxR X r') : IxR X (rIxO r r') := by
  intro value slice pins s σ H x y v u Q I rx ry q hs
  rcases q with q | q
  · exact h value slice pins s σ H x y v u Q I rx ry q hs
  · exact h' value slice pins s σ H x y v u Q I rx ry q hs
/-- the signs of a text, the items of a row -/
inductive Row (H : Hp) : V → List V → Prop
  | lst {a : Addr} {xs : List V} : H a = some (.lst xs) → Row H (.ref a) xs
  | tup {a : Addr} {xs : List V} : H a = some (.tup xs) → Row H (.ref a) xs
  | str (z : Str) (h : z.length ≤ sizeLine) : Row H (.str z) (z.cps.toList.map fun c => V.str ⟨#[c]⟩)
theorem Row.but {H H' : Hp} {u : Addr} {x : V} {xs : List V} (h : Row H x xs) (hb : But u H H') (hu : x ≠ .ref u) : Row H' x xs := by
  cases h with
  | lst e => exact .lst (hb _ _ (fun z => hu (by rw [z])) e)
  | tup e => exact .tup (hb _ _ (fun z => hu (by rw [z])) e)
  | str z h => exact .str z h
def rIxR : R2 := fun x y H Q => ∃ xs i v, Row H x xs ∧ y = .int i ∧ 0 ≤ i ∧ i < 2 ^ 60 ∧ xs[i.toNat]? = some v ∧ Q v H
theorem ix_row {X : Cx} : IxR X rIxR := by
  intro value slice pins s σ H x y v u Q I rx ry h hs
  obtain ⟨xs, i, z, hR, rfl, h0, h6, hz, q⟩ := h
  cases hR with
  | lst e => exact ix_list value slice pins s σ H _ _ v u Q I rx ry ⟨_, _, _, _, rfl, rfl, SqL.of e, atI_nn h0 hz, q⟩ hs
  | tup e => exact ix_tup value slice pins s σ H _ _ v u Q I rx ry ⟨_, _, _, _, rfl, rfl, SqT.of e, atI_nn h0 hz, q⟩ hs
  | str t ht =>
    rw [List.getElem?_map] at hz
    obtain ⟨c, hc, rfl⟩ := Option.map_eq_some_iff.mp hz
    have hl : i.toNat < t.cps.toList.length := (List.getElem?_eq_some_iff.mp hc).1
    exact ix_str value slice pins s σ H _ _ v u Q I rx ry ⟨_, _, _, rfl, rfl, ht, atI_nn h0 hc, q⟩ hs
def rLenR : List V → Hp → VK → Prop := fun vs H Q => ∃ x xs, vs = [x] ∧ Row H x xs ∧ Q (.int (xs.length : Nat)) H
theorem call_lenR {X : Cx} : CallR X (.builtin "len") rLenR := by
  intro pins s σ H vs us Q I r h
  obtain ⟨x, xs, rfl, hR, q⟩ := h
  cases hR with
  | lst e => exact call_len_seq pins s σ H _ us Q I r ⟨_, _, rfl, .inl (SqL.of e), q⟩
  | tup e => exact call_len_seq pins s σ H _ us Q I r ⟨_, _, rfl, .inr (SqT.of e), q⟩
  | str t ht => exact call_len_str pins s σ H _ us Q I r ⟨t, rfl, ht, by rw [List.length_map, Array.length_toList] at q; exact q⟩
theorem vals_at : ∀ (ys : List V) (us : List Value), ys.length = us.length → (∀ (j : Nat) (v : V) (u : Value), ys[j]? = some v → us[j]? = some u → RelV v u) → Vals ys us
  | [], [], _, _ => .nil
  | [], _ :: _, h, _ => nomatch h
  | _ :: _, [], h, _ => nomatch h
  | y :: ys, u :: us, h, g => .cons (g 0 _ _ rfl rfl) (vals_at ys us (Nat.succ.inj h) fun j v u a b => g (j + 1) v u a b)
def rSigns : List V → Hp → VK → Prop := fun xs H Q => ∃ z : Str, xs = [.str z] ∧ z.length ≤ sizeLine ∧ ∀ l, H l = none → Q (.ref l) (upd H l (.lst (z.cps.toList.map fun c => V.str ⟨#[c]⟩)))
/-- list(a text) -/
theorem call_list_signs {X : Cx} (hh : X.A.handled = none) : CallR X (.type "list") rSigns := by
  intro pins s σ H xs us Q I r h
  obtain ⟨z, rfl, hz, q⟩ := h
  obtain ⟨u, rfl, rx⟩ := vals1 r
  obtain ⟨t, rfl⟩ := rx
  refine PySem.call_list_str hh z t (hn := hz) fun h' tk acc' c' hk hS' hacc => ?_
  have hv : Vals (z.cps.toList.map fun c => V.str ⟨#[c]⟩) acc'.toList := by
    refine vals_at _ _ ?_ fun j v u hj hu => ?_
    · rw [List.length_map, Array.length_toList, Array.length_toList]; exact hacc.1.symm
    · obtain ⟨c, k, hc, rfl⟩ := hacc.2 j u (by simpa using hu)
      rw [List.getElem?_map, Array.getElem?_toList, hc] at hj
      cases hj
      exact ⟨k, rfl⟩
  exact ⟨.ref s.heap.objs.size, _, I.laid (t' := tk) hk (Nat.le_refl _) (show ObjOk X.prog X.w _ h' _ (.lst (z.cps.toList.map fun c => V.str ⟨#[c]⟩)) from ⟨by rw [List.length_map, Array.length_toList]; exact hz, acc'.toList, c', hv, by simpa using hS'⟩), rfl, q _ (I.hok.fresh (Nat.le_refl _))⟩
/-- a tuple as a comprehension's target -/
theorem pg_tupK {X : Cx} {K : PySem.W.Frag} {es : List Expr} {k : Nat} {pos : Pos} {t : TGs} {n : Nat} (hK : X.K = K) (hc : X.calm = true) (h : PGs X es t)
    (hn : (assignEach es X.env).length = n) (hst : (assignEach es X.env).findIdx? (·.1) = none) : PG X (.Tuple es k pos) (gTup K n t) := by
  subst hK
  exact pg_tup hc h hn hst
end Pk

set_option Elab.async false
set_option linter.all false
set_option maxRecDepth 100000
set_option maxHeartbeats 4000000
namespace K39
open PySem PySem.Spec PyProof.Rows L2 Rd Dt Dq Pk
local macro_rules | `(tactic| walk_at "rd") => `(tactic| try simp only [tVar_, tC_, tOp_, tUn_, rI_, rI0_, rU_, eq_ii, ne_ii, eq_ss, ne_ss, eq_bb, ne_bb, tAndV_, tOrV_, tNotV_, tIf_, tTest_, tB_, tAnd_, tOr_, tNot_, tChain_, tNil_, tCons_, tTup_, tLst_, tCB_, tCall_, tSeq_, tNext_, tRet_, tRetN_, tDrop_, tBreak_, tNever_, tIfS_, tAsg_, gName_, gTup_, gCons_, gNil_, gSub_, tPar_, tPar3_, tSl_, tNoPart_, tPart_, tBM_, tFor_range1, tFor_range2, tFor_list, tFor_tup,
  L2.start, List.map_cons, List.map_nil, List.length_cons, List.length_nil, List.replicate, List.append_nil, List.nil_append, List.cons_append, List.getElem?_cons_zero, List.getElem?_cons_succ, List.set_cons_zero, List.set_cons_succ, Option.some.injEq, V.int.injEq, V.bl.injEq, V.str.injEq, V.ref.injEq, exists_eq_left, exists_eq_left', exists_eq_right, exists_eq, exists_and_left, and_true, true_and, decide_eq_true_eq, Nat.reduceAdd, Nat.reduceSub, Nat.add_zero, Nat.zero_add, List.cons.injEq, Bool.not_eq_true', decide_eq_false_iff_not, eq_self, reduceCtorEq, Bool.false_eq_true, if_true, if_false, ite_true, ite_false, and_self, tLc_range1, tLc_range2, tLc_list, tLc_tup, tYes_, wipe0, wipe1, tCallS_, rIxL_, rIxT_, rSlL_, rCat_, rSetL_, rRep_, rGcd_, tCallK_, gUnl_, tRaise_, decide_true, decide_false, not_true_eq_false, not_false_eq_true, false_and, or_false, false_or, and_false, and_assoc, exists_const, forall_const, forall_eq'])

def top (i : Nat) : Stmt := PySem.Challenge.pw_arrowcells_k39_one_deed_on_a_store.main.body.getD i (.Pass ⟨0, 0, 0, 0⟩)
structure Tx (mg : Str → Option Value) : Prop where
  b_len : mg "len" = none
  b_int : mg "int" = none
  b_isinstance : mg "isinstance" = none
  b_abs : mg "abs" = none
  b_divmod : mg "divmod" = none
  b_range : mg "range" = none
  b_max : mg "max" = none
  b_min : mg "min" = none
  b_repr : mg "repr" = none
  b_all : mg "all" = none
  b_list : mg "list" = none
  b_tuple : mg "tuple" = none
  b_str : mg "str" = none
  b_sum : mg "sum" = none
  letters : ∃ t, mg "LETTERS" = some (.str abc t)
abbrev FD (K : PySem.W.Frag) (x : Str) (st : Stmt) (f : Addr) (fd : FuncData) : Prop := FunD K x x (defArgs st) (defBody st) (defScope st) [] [] f fd
abbrev ErN (K : PySem.W.Frag) (mg : Str → Option Value) := Er K mg "InvalidProgram" "given"
abbrev KW (K : PySem.W.Frag) (fd : FuncData) (ps : List Str) : Prop := KBn K fd ps 0 ps (fun _ ws => ws) (fun _ zs => zs)
section
variable {P : Program} {w : World} {K : PySem.W.Frag} {mg : Str → Option Value} {base : Heap}
def WellAt (H : Hp) (u : Addr) : Prop := ∃ a b c : Int, H u = some (.lst [.int a, .int b, .int c])
theorem WellAt.but {H H' : Hp} {u : Addr} (h : WellAt H u) (s : Same H H') : WellAt H' u := by
  obtain ⟨a, b, c, e⟩ := h
  exact ⟨a, b, c, s _ _ e⟩
def spTake : Sp := fun vs H Q _ => ∃ (u : Addr) (n : Int), vs = [.ref u, .int n] ∧ WellAt H u ∧ 1 ≤ n ∧ n < 1073741824 ∧ ∀ (d : Int) (H' : Hp), But u H H' → WellAt H' u → 0 ≤ d → d < n → Q (.int d) H'
theorem sc_take : FnScope ["_law_well_here", "_law_limit", "_law_figure", "_law_seed"] ["_law_well_here", "_law_limit"] (defScope (top 42)) := ⟨rfl, rfl, rfl, by decide +kernel, rfl, by decide +kernel, by decide +kernel⟩
theorem ok_take {f : Addr} {fd : FuncData} (T : Tx mg) (F : FD K "_law_take" (top 42) f fd) : FnOk P w K mg base CX0 1 f fd ["_law_well_here", "_law_limit"] spTake := by
  refine F.ok sc_take (fun vs H Q E h => ?_) (fun cdv A outer s H vs Q E hr h => ?_)
  · obtain ⟨_, _, rfl, _⟩ := h
    rfl
  · obtain ⟨u, n, rfl, ⟨a, b, c, hu⟩, n1, n2, k⟩ := h
    have nd := sc_take.nd
    refine ⟨_, (pss_cons (ps_if (pt_cmpR op_gt (pe_ix (r := rIxL K) ix_list (pv 0) pe_int (fun _ _ => rfl)) pe_int (nomark _)) (pss_cons (ps_asg (pe_callB call_divmodW (by rfl) T.b_divmod (by decide +kernel) (pa_cons (pe_ix (r := rIxL K) ix_list (pv 0) pe_int (fun _ _ => rfl)) (pa_cons (pv 1) pa_nil))) (pg_tup rfl (pgs_cons (pg_sub (pv 0) pe_int set_list) (pgs_cons (pg_name (i := 2) nd rfl (Or.inl rfl) (hf := Or.inr rfl)) pgs_nil))))
        (pss_one (ps_ret (pv 2)))) pss_nil)
        (pss_cons (ps_asg (pe_op op_add (pe_ix (r := rIxL K) ix_list (pv 0) pe_int (fun _ _ => rfl)) pe_int) (pg_sub (pv 0) pe_int set_list))
        (pss_cons (ps_set (i := 3) nd rfl (Or.inl rfl) (pe_op op_mod (pe_callTy call_int1 (by rfl) T.b_int (by decide +kernel) (pa_cons (pe_op op_add (pe_op op_mul (pe_ix (r := rIxL K) ix_list (pv 0) pe_int (fun _ _ => rfl)) pe_int) (pe_op op_mul (pe_ix (r := rIxL K) ix_list (pv 0) pe_int (fun _ _ => rfl)) pe_int)) pa_nil)) pe_int))
        (pss_cons (ps_asg (pe_op op_mod (pe_callTy call_int1 (by rfl) T.b_int (by decide +kernel) (pa_cons (pe_op op_add (pe_op op_mul (pv 3) (pe_op op_add (pe_op op_mod (pe_callTy call_int1 (by rfl) T.b_int (by decide +kernel) (pa_cons (pe_op op_fdiv (pv 3) pe_int) pa_nil)) pe_int) pe_int)) pe_int) pa_nil)) pe_int) (pg_sub (pv 0) pe_int set_list))
        (pss_one (ps_ret (pe_op op_mod (pe_callTy call_int1 (by rfl) T.b_int (by decide +kernel) (pa_cons (pe_op op_fdiv (pe_ix (r := rIxL K) ix_list (pv 0) pe_int (fun _ _ => rfl)) pe_int) pa_nil)) (pv 1)))))))), ?_⟩
    refine sq fun U hU => ?_
    walk_at "rd"
    refine ⟨_, SqL.of hu, _, atI_nn (by decide) rfl, a, rfl, ?_⟩
    by_cases c0 : 0 < a
    · rw [if_pos c0]
      refine ⟨_, SqL.of hu, _, atI_nn (by decide) rfl, a, rfl, ⟨by omega, PyProof.noPylong_small (by omega)⟩, fun p hp => ?_⟩
      have hup : u ≠ p := ne_of_none hu hp
      refine ⟨_, SqT.of upd_same, rfl, _, _, rfl, _, (by rw [upd_ne hup]; exact hu), 0, rfl, _, _, rfl, rfl, ?_⟩
      refine k _ _ (fun b' o hb e => ?_) ⟨_, _, _, upd_same⟩ (Int.emod_nonneg a (by omega)) (Int.emod_lt_of_pos a (by omega))
      rw [upd_ne hb, upd_ne (ne_of_none e hp)]; exact e
    rw [if_neg c0]
    refine hU _ _ ?_
    clear hU
    refine sq fun U hU => ?_
    walk_at "rd"
    refine ⟨_, SqL.of hu, _, atI_nn (by decide) rfl, c, rfl, _, hu, 2, rfl, hU _ _ ?_⟩
    clear hU
    have h1 : (upd H u (.lst ([V.int a, V.int b, V.int c].set 2 (V.int (c + 1))))) u = some (.lst [.int a, .int b, .int (c + 1)]) := upd_same
    generalize eH : upd H u (.lst ([V.int a, V.int b, V.int c].set 2 (V.int (c + 1)))) = H1 at h1 ⊢
    have s1 : But u H H1 := by rw [← eH]; exact But.put
    refine sq fun U hU => ?_
    walk_at "rd"
    refine ⟨_, SqL.of h1, _, atI_nn (by decide) rfl, b, rfl, .inr ⟨by decide, by decide⟩, _, SqL.of h1, _, atI_nn (by decide) rfl, c + 1, rfl, .inr ⟨by decide, by decide⟩, by decide, hU _ _ ?_⟩
    clear hU
    generalize (b * 48271 + (c + 1) * 30103) % 2147483629 = sd
    refine sq fun U hU => ?_
    walk_at "rd"
    have q1 := Int.emod_nonneg (sd / 7) (show (5003 : Int) ≠ 0 by decide)
    have q2 := Int.emod_lt_of_pos (sd / 7) (show (0 : Int) < 5003 by decide)
    refine ⟨⟨by decide, by decide⟩, by decide, .inr ⟨by omega, by omega⟩, by decide, _, h1, 1, rfl, hU _ _ ?_⟩
    clear hU
    generalize (sd * (sd / 7 % 5003 + 20011) + 11) % 2147483587 = b2
    have h2 : (upd H1 u (.lst ([V.int a, V.int b, V.int (c + 1)].set 1 (V.int b2)))) u = some (.lst [.int a, .int b2, .int (c + 1)]) := upd_same
    walk_at "rd"
    refine ⟨_, SqL.of h2, _, atI_nn (by decide) rfl, b2, rfl, ⟨by decide, by decide⟩, by omega, ?_⟩
    exact k _ _ (s1.trans But.put) ⟨_, _, _, h2⟩ (Int.emod_nonneg _ (by omega)) (Int.emod_lt_of_pos _ (by omega))
theorem sc_well : FnScope ["_law_script", "_law_turn", "_law_own", "_law_stirred", "_law_cell"] ["_law_script", "_law_turn"] (defScope (top 41)) := ⟨rfl, rfl, rfl, by decide +kernel, rfl, by decide +kernel, by decide +kernel⟩
def spWell (K : PySem.W.Frag) : Sp := fun vs H Q _ => ∃ (a : Addr) (ns : List Int) (t : Int), vs = [.ref a, .int t] ∧ SqL K H a (ns.map V.int) ∧ ns.length ≤ 63 ∧ 0 ≤ t ∧ t ≤ 5 ∧ ∀ (u : Addr) (H' : Hp), Same H H' → H u = none → WellAt H' u → Q (.ref u) H'
def wlP (a : Addr) (t o : Int) (K : PySem.W.Frag) (ns : List Int) (H : Hp) (i : Nat) : L2.St → Hp → Prop := fun σ H' => Same H H' ∧ ∃ (b : Int) (x : Option V), σ = [some (.ref a), some (V.int t), some (V.int o), some (V.int b), x]
theorem ok_well {f : Addr} {fd : FuncData} (T : Tx mg) (F : FD K "_law_well" (top 41) f fd) : FnOk P w K mg base CX0 1 f fd ["_law_script", "_law_turn"] (spWell K) := by
  refine F.ok sc_well (fun vs H Q E h => ?_) (fun cdv A outer s H vs Q E hr h => ?_)
  · obtain ⟨_, _, _, rfl, _⟩ := h
    rfl
  · obtain ⟨a, ns, t, rfl, hS, hn, t0, t1, k⟩ := h
    have nd := sc_well.nd
    refine ⟨_, (pss_cons (ps_set (i := 2) nd rfl (Or.inl rfl) (pe_ifExp (pt_cmpR op_lt (pv 1) (pe_callB call_len_seq (by rfl) T.b_len PySem.boot_len (pa_cons (pv 0) pa_nil)) (nomark _)) (pe_callTy call_int1 (by rfl) T.b_int (by decide +kernel) (pa_cons (pe_ix (r := rIxL K) ix_list (pv 0) (pv 1) (fun _ _ => rfl)) pa_nil)) (pe_op op_add (pe_op op_mul pe_int (pv 1)) pe_int)))
        (pss_cons (ps_set (i := 3) nd rfl (Or.inl rfl) (pe_op op_add pe_int (pe_op op_mul pe_int (pv 1))))
        (pss_cons (ps_for (passes_of rfl) rfl (pi_list (pe_slice (r := rSlL K) sl_list (pv 0) po_none (po_some pe_int))) (pg_name (i := 4) nd rfl (Or.inl rfl)) (pss_one (ps_set (i := 3) nd rfl (Or.inl rfl) (pe_op op_mod (pe_callTy call_int1 (by rfl) T.b_int (by decide +kernel) (pa_cons (pe_op op_add (pe_op op_add (pe_op op_mul (pv 3) pe_int) (pe_op op_mod (pe_callTy call_int1 (by rfl) T.b_int (by decide +kernel) (pa_cons (pv 4) pa_nil)) pe_int)) pe_int) pa_nil)) pe_int))))
        (pss_cons (ps_set (i := 3) nd rfl (Or.inl rfl) (pe_op op_mod (pe_callTy call_int1 (by rfl) T.b_int (by decide +kernel) (pa_cons (pe_op op_add (pe_op op_mul (pv 3) pe_int) (pe_op op_mul (pe_op op_mod (pe_callTy call_int1 (by rfl) T.b_int (by decide +kernel) (pa_cons (pv 2) pa_nil)) pe_int) pe_int)) pa_nil)) pe_int))
        (pss_one (ps_ret (pe_lst (pa_cons (pe_ifExp (PW.pt (pw_or (pt_cmpR op_lt (pv 2) pe_int (nomark _)) (pw_or1 (pt_cmpR op_ge (pv 2) (pe_op op_pow pe_int pe_int) (nomark _))))) (pe_callB call_abs (by rfl) T.b_abs (by decide +kernel) (pa_cons (pv 2) pa_nil)) pe_int) (pa_cons (pv 3) (pa_cons pe_int pa_nil)))))))))), ?_⟩
    refine sq fun U hU => ?_
    walk_at "rd"
    have go : ∀ o : Int, U [some (V.ref a), some (V.int t), some (V.int o), none, none] H := fun o => by
      refine hU _ _ ?_
      clear hU
      refine sq fun U hU => ?_
      walk_at "rd"
      refine ⟨.inr ⟨by omega, by omega⟩, hU _ _ ?_⟩
      clear hU
      refine sq fun U hU => ?_
      walk_at "rd"
      refine ⟨_, hS, fun p hp => ⟨⟨_, SqL.of upd_same⟩, ?_⟩⟩
      refine for_l (K := K) (a := p) (xs := cutV (ns.map V.int) none (some 9)) (fun i => fun σ H' => H' p = some (.lst (cutV (ns.map V.int) none (some 9))) ∧ wlP a t o K ns H i σ H') ⟨upd_same, same_new hp, _, _, rfl⟩ (fun i σ H' _ h => SqL.of h.1) ?_ ?_
      · rintro i x σ H' hi ⟨hp', hs, b, y, rfl⟩
        obtain ⟨z, rfl⟩ : ∃ z, x = V.int z := by
          have hm := List.mem_of_getElem? hi
          obtain ⟨z, _, rfl⟩ := List.mem_map.mp (List.mem_of_mem_drop (List.mem_of_mem_take hm))
          exact ⟨z, rfl⟩
        walk_at "rd"
        exact ⟨.inr ⟨by decide, by decide⟩, by decide, by decide, hp', hs, _, _, rfl⟩
      · rintro σ H' ⟨hp', hs, b, y, rfl⟩
        refine hU _ _ ?_
        clear hU
        refine sq fun U hU => ?_
        walk_at "rd"
        refine ⟨.inr ⟨by decide, by decide⟩, by decide, .inr ⟨by decide, by decide⟩, by decide, hU _ _ ?_⟩
        clear hU
        walk_at "rd"
        have fin : ∀ g b', (∀ p, H' p = none → Q (.ref p) (upd H' p (.lst [V.int g, V.int b', V.int 0]))) := fun g b' q hq => k q _ (hs.trans (same_new hq)) (hs.free hq) ⟨_, _, _, upd_same⟩
        by_cases c : o < 0
        · rw [if_pos c]
          exact ⟨by decide, fun q hq => fin _ _ q hq⟩
        · rw [if_neg c]
          refine ⟨⟨by decide, by decide, by decide⟩, ?_⟩
          by_cases c2 : (10 : Int) ^ (18 : Int).toNat ≤ o
          · rw [if_pos c2]
            exact ⟨by decide, fun q hq => fin _ _ q hq⟩
          · rw [if_neg c2]
            exact ⟨by decide, fun q hq => fin _ _ q hq⟩
    refine ⟨_, .inl hS, ?_⟩
    rw [List.length_map]
    by_cases c : t < (ns.length : Int)
    · rw [if_pos c]
      have hx : (ns.map V.int)[t.toNat]? = some (V.int (ns[t.toNat]'(by omega))) := by rw [List.getElem?_map, List.getElem?_eq_getElem (by omega)]; rfl
      exact ⟨_, hS, _, atI_nn t0 hx, .inl ⟨_, rfl, go _⟩⟩
    · rw [if_neg c]
      exact ⟨.inl ⟨by decide, by decide⟩, go _⟩
theorem some_but {H H' : Hp} {u : Addr} {a : Addr} {o : HO} (h : H a = some o) (hb : But u H H') (n : a ≠ u) : H' a = some o := hb _ _ n h
def spPick : Sp := fun vs H Q _ => ∃ (u : Addr) (x : V) (xs : List V), vs = [.ref u, x] ∧ WellAt H u ∧ x ≠ .ref u ∧ Row H x xs ∧ 1 ≤ xs.length ∧ xs.length ≤ 1000 ∧ ∀ (y : V) (H' : Hp), But u H H' → WellAt H' u → y ∈ xs → Q y H'
theorem sc_pick : FnScope ["_law_well_here", "_law_some"] ["_law_well_here", "_law_some"] (defScope (top 43)) := ⟨rfl, rfl, rfl, by decide +kernel, rfl, by decide +kernel, by decide +kernel⟩
theorem ok_pick {f : Addr} {fd : FuncData} (T : Tx mg) (F : FD K "_law_pick" (top 43) f fd) {f1 : Addr} {fd1 : FuncData} (C1 : Cal P w K mg base CX0 1 "_law_take" ["_law_well_here", "_law_limit"] spTake f1 fd1) : FnOk P w K mg base CX0 2 f fd ["_law_well_here", "_law_some"] spPick := by
  obtain ⟨g_law_take, k_law_take, b_law_take, F_law_take⟩ := C1
  refine F.ok sc_pick (fun vs H Q E h => ?_) (fun cdv A outer s H vs Q E hr h => ?_)
  · obtain ⟨_, _, _, rfl, _⟩ := h
    rfl
  · obtain ⟨u, x, xs, rfl, hw, hne, hR, l1, l2, k⟩ := h
    refine ⟨_, (pss_one (ps_ret (pe_ix ix_row (pv 1) (pe_call F_law_take (hr.mono (by omega)) rfl g_law_take k_law_take b_law_take .nil pass0 (pa_cons (pv 0) (pa_cons (pe_callB call_lenR (by rfl) T.b_len PySem.boot_len (pa_cons (pv 1) pa_nil)) pa_nil))) (fun _ _ => rfl)))), ?_⟩
    walk_at "rd"
    simp only [spTake]
    walk_at "rd"
    refine ⟨_, _, rfl, hR, _, rfl, hw, by omega, by omega, fun d H' hb hw' d0 d1 => ?_⟩
    obtain ⟨y, hy⟩ : ∃ y, xs[d.toNat]? = some y := ⟨_, List.getElem?_eq_getElem (by omega)⟩
    exact ⟨xs, d, y, hR.but hb hne, rfl, d0, by omega, hy, k y H' hb hw' (List.mem_of_getElem? hy)⟩
end
end K39

set_option Elab.async false
set_option linter.all false
set_option maxRecDepth 100000
set_option maxHeartbeats 4000000
namespace K39
open PySem PySem.Spec PyProof.Rows L2 Rd Dt Dq Pk
local macro_rules | `(tactic| walk_at "rd") => `(tactic| try simp only [tVar_, tC_, tOp_, tUn_, rI_, rI0_, rU_, eq_ii, ne_ii, eq_ss, ne_ss, eq_bb, ne_bb, tAndV_, tOrV_, tNotV_, tIf_, tTest_, tB_, tAnd_, tOr_, tNot_, tChain_, tNil_, tCons_, tTup_, tLst_, tCB_, tCall_, tSeq_, tNext_, tRet_, tRetN_, tDrop_, tBreak_, tNever_, tIfS_, tAsg_, gName_, gTup_, gCons_, gNil_, gSub_, tPar_, tPar3_, tSl_, tNoPart_, tPart_, tBM_, tFor_range1, tFor_range2, tFor_list, tFor_tup,
  L2.start, List.map_cons, List.map_nil, List.length_cons, List.length_nil, List.replicate, List.append_nil, List.nil_append, List.cons_append, List.getElem?_cons_zero, List.getElem?_cons_succ, List.set_cons_zero, List.set_cons_succ, Option.some.injEq, V.int.injEq, V.bl.injEq, V.str.injEq, V.ref.injEq, exists_eq_left, exists_eq_left', exists_eq_right, exists_eq, exists_and_left, and_true, true_and, decide_eq_true_eq, Nat.reduceAdd, Nat.reduceSub, Nat.add_zero, Nat.zero_add, List.cons.injEq, Bool.not_eq_true', decide_eq_false_iff_not, eq_self, reduceCtorEq, Bool.false_eq_true, if_true, if_false, ite_true, ite_false, and_self, tLc_range1, tLc_range2, tLc_list, tLc_tup, tYes_, wipe0, wipe1, tCallS_, rIxL_, rIxT_, rSlL_, rCat_, rSetL_, rRep_, rGcd_, tCallK_, gUnl_, tRaise_, decide_true, decide_false, not_true_eq_false, not_false_eq_true, false_and, or_false, false_or, and_false, and_assoc, exists_const, forall_const, forall_eq'])

section
variable {P : Program} {w : World} {K : PySem.W.Frag} {mg : Str → Option Value} {base : Heap}
def isTup : PyData → Bool
  | .tuple _ => true
  | _ => false
def isStr : PyData → Bool
  | .str _ => true
  | _ => false
theorem isi_tup {H : Hp} {x : V} {d : PyData} {Q : VK} (h : Dq K H x d) (q : Q (.bl (isTup d)) H) : rIsi K [x, .ty "tuple"] H Q := by
  cases h with
  | non => exact ⟨_, _, .type "NoneType", .type "tuple", false, rfl, .ty _, .base .non, rfl, q⟩
  | bl b => exact ⟨_, _, .type "bool", .type "tuple", false, rfl, .ty _, .base (.bl _), rfl, q⟩
  | int i _ => exact ⟨_, _, .type "int", .type "tuple", false, rfl, .ty _, .base (.int _), rfl, q⟩
  | str x _ => exact ⟨_, _, .type "str", .type "tuple", false, rfl, .ty _, .base (.str _), rfl, q⟩
  | tup e _ => exact ⟨_, _, .type "tuple", .type "tuple", true, rfl, .ty _, .base (.tup e), rfl, q⟩
  | lst e _ _ => exact ⟨_, _, .type "list", .type "tuple", false, rfl, .ty _, .base (.lst e), rfl, q⟩
  | dic e => exact ⟨_, _, .type "dict", .type "tuple", false, rfl, .ty _, .base (.dK e), rfl, q⟩
theorem isi_str {H : Hp} {x : V} {d : PyData} {Q : VK} (h : Dq K H x d) (q : Q (.bl (isStr d)) H) : rIsi K [x, .ty "str"] H Q := by
  cases h with
  | non => exact ⟨_, _, .type "NoneType", .type "str", false, rfl, .ty _, .base .non, rfl, q⟩
  | bl b => exact ⟨_, _, .type "bool", .type "str", false, rfl, .ty _, .base (.bl _), rfl, q⟩
  | int i _ => exact ⟨_, _, .type "int", .type "str", false, rfl, .ty _, .base (.int _), rfl, q⟩
  | str x _ => exact ⟨_, _, .type "str", .type "str", true, rfl, .ty _, .base (.str _), rfl, q⟩
  | tup e _ => exact ⟨_, _, .type "tuple", .type "str", false, rfl, .ty _, .base (.tup e), rfl, q⟩
  | lst e _ _ => exact ⟨_, _, .type "list", .type "str", false, rfl, .ty _, .base (.lst e), rfl, q⟩
  | dic e => exact ⟨_, _, .type "dict", .type "str", false, rfl, .ty _, .base (.dK e), rfl, q⟩
def spData (g : PyData → Bool) (K : PySem.W.Frag) : Sp := fun vs H Q _ => ∃ (x : V) (d : PyData), vs = [x] ∧ Dq K H x d ∧ ∀ H', Same H H' → Q (.bl (g d)) H'
theorem smS_line {s : Str} (h : smS s = true) : s.length ≤ sizeLine := Nat.le_trans (of_decide_eq_true (Bool.and_eq_true_iff.mp h).1) (by rw [sizeLine_eq]; decide)
theorem isLetter_one {s : Str} (h : s.length = 1) : ∃ c, s = ⟨#[c]⟩ ∧ isLetterS s = decide (c ∈ abc.cps.toList) := by
  obtain ⟨⟨l⟩⟩ := s
  have h' : l.length = 1 := h
  match l, h' with
  | [c], _ => exact ⟨c, rfl, rfl⟩
theorem isLetter_not {s : Str} (h : s.length ≠ 1) : isLetterS s = false := by
  obtain ⟨⟨l⟩⟩ := s
  have h' : l.length ≠ 1 := h
  match l, h' with
  | [], _ => rfl
  | [c], h => exact absurd rfl h
  | _ :: _ :: _, _ => rfl
theorem sc_letter : FnScope ["value"] ["value"] (defScope (top 20)) := ⟨rfl, rfl, rfl, by decide +kernel, rfl, by decide +kernel, by decide +kernel⟩
theorem ok_letter {f : Addr} {fd : FuncData} (T : Tx mg) (F : FD K "is_letter" (top 20) f fd) : FnOk P w K mg base CX0 1 f fd ["value"] (spData isLetter K) := by
  obtain ⟨t, hLET⟩ := T.letters
  refine F.ok sc_letter (fun vs H Q E h => ?_) (fun cdv A outer s H vs Q E hr h => ?_)
  · obtain ⟨_, _, rfl, _⟩ := h
    rfl
  · obtain ⟨x, d, rfl, hx, k⟩ := h
    replace k := k H (Same.refl H)
    refine ⟨_, (pss_one (ps_ret (pe_and (pe_callB call_isi (by rfl) T.b_isinstance (by decide +kernel) (pa_cons (pv 0) (pa_cons (pe_bltn (v := .ty "str") rfl T.b_str (by decide +kernel) rfl) pa_nil))) (pe_and (pe_cmpR op_eq (pe_callB call_len_str (by rfl) T.b_len PySem.boot_len (pa_cons (pv 0) pa_nil)) pe_int (nomark _)) (pe_one (pe_cmpR op_in_sign (pv 0) (pe_glob (v := .str abc) rfl hLET ⟨_, rfl⟩) rfl)))))), ?_⟩
    walk_at "rd"
    refine isi_str hx ?_
    walk_at "rd"
    cases hx with
    | str z hz =>
      simp only [isStr, if_true]
      refine ⟨z, rfl, smS_line hz, ?_⟩
      by_cases h1 : (z.length : Int) = 1
      · rw [if_pos h1]
        obtain ⟨c, rfl, e⟩ := isLetter_one (by omega : z.length = 1)
        refine ⟨c, rfl, ?_⟩
        show Q (.bl (decide (c ∈ abc.cps.toList))) H
        rw [← e]
        exact k
      · rw [if_neg h1]
        have e : isLetter (.str z) = false := isLetter_not (by omega)
        rw [e] at k
        exact k
    | _ => exact k
theorem sc_goal : FnScope ["value"] ["value"] (defScope (top 31)) := ⟨rfl, rfl, rfl, by decide +kernel, rfl, by decide +kernel, by decide +kernel⟩
theorem ok_goal {f : Addr} {fd : FuncData} (T : Tx mg) (F : FD K "is_goal" (top 31) f fd) {f1 : Addr} {fd1 : FuncData} (C1 : Cal P w K mg base CX0 1 "is_letter" ["value"] (spData isLetter K) f1 fd1) : FnOk P w K mg base CX0 2 f fd ["value"] (spData isGoal K) := by
  obtain ⟨gis_letter, kis_letter, bis_letter, Fis_letter⟩ := C1
  refine F.ok sc_goal (fun vs H Q E h => ?_) (fun cdv A outer s H vs Q E hr h => ?_)
  · obtain ⟨_, _, rfl, _⟩ := h
    rfl
  · obtain ⟨x, d, rfl, hx, k⟩ := h
    refine ⟨_, (pss_one (ps_ret (pe_or (pe_call Fis_letter (hr.mono (by omega)) rfl gis_letter kis_letter bis_letter .nil pass0 (pa_cons (pv 0) pa_nil)) (pe_one (pe_and (pe_callB call_isi (by rfl) T.b_isinstance (by decide +kernel) (pa_cons (pv 0) (pa_cons (pe_bltn (v := .ty "str") rfl T.b_str (by decide +kernel) rfl) pa_nil))) (pe_one (pe_cmpR op_eq (pv 0) pe_str (nomark _)))))))), ?_⟩
    walk_at "rd"
    refine ⟨x, d, rfl, hx, fun H' hs => ?_⟩
    replace k := k H' hs
    replace hx := hx.up hs
    walk_at "rd"
    cases hx with
    | str z hz =>
      have e : isGoal (.str z) = (isLetterS z || decide (z = "END")) := rfl
      rw [e] at k
      by_cases h1 : isLetterS z = true
      · rw [if_pos (show isLetter (.str z) = true from h1)]
        rw [h1] at k
        exact k
      · rw [if_neg (show ¬ isLetter (.str z) = true from h1)]
        rw [Bool.eq_false_iff.mpr h1] at k
        refine isi_str (.str z hz) ?_
        simp only [isStr]
        walk_at "rd"
        exact k
    | non =>
      rw [if_neg (by simp [isLetter])]
      refine isi_str .non ?_
      simp only [isStr]
      walk_at "rd"
      exact k
    | bl b =>
      rw [if_neg (by simp [isLetter])]
      refine isi_str (.bl b) ?_
      simp only [isStr]
      walk_at "rd"
      exact k
    | int i h =>
      rw [if_neg (by simp [isLetter])]
      refine isi_str (.int i h) ?_
      simp only [isStr]
      walk_at "rd"
      exact k
    | tup a h =>
      rw [if_neg (by simp [isLetter])]
      refine isi_str (.tup a h) ?_
      simp only [isStr]
      walk_at "rd"
      exact k
    | lst a l h =>
      rw [if_neg (by simp [isLetter])]
      refine isi_str (.lst a l h) ?_
      simp only [isStr]
      walk_at "rd"
      exact k
    | dic a =>
      rw [if_neg (by simp [isLetter])]
      refine isi_str (.dic a) ?_
      simp only [isStr]
      walk_at "rd"
      exact k
end
end K39

set_option Elab.async false
set_option linter.all false
set_option maxRecDepth 100000
set_option maxHeartbeats 4000000
namespace K39
open PySem PySem.Spec PyProof.Rows L2 Rd Dt Dq Pk
local macro_rules | `(tactic| walk_at "rd") => `(tactic| try simp only [tVar_, tC_, tOp_, tUn_, rI_, rI0_, rU_, eq_ii, ne_ii, eq_ss, ne_ss, eq_bb, ne_bb, tAndV_, tOrV_, tNotV_, tIf_, tTest_, tB_, tAnd_, tOr_, tNot_, tChain_, tNil_, tCons_, tTup_, tLst_, tCB_, tCall_, tSeq_, tNext_, tRet_, tRetN_, tDrop_, tBreak_, tNever_, tIfS_, tAsg_, gName_, gTup_, gCons_, gNil_, gSub_, tPar_, tPar3_, tSl_, tNoPart_, tPart_, tBM_, tFor_range1, tFor_range2, tFor_list, tFor_tup,
  L2.start, List.map_cons, List.map_nil, List.length_cons, List.length_nil, List.replicate, List.append_nil, List.nil_append, List.cons_append, List.getElem?_cons_zero, List.getElem?_cons_succ, List.set_cons_zero, List.set_cons_succ, Option.some.injEq, V.int.injEq, V.bl.injEq, V.str.injEq, V.ref.injEq, exists_eq_left, exists_eq_left', exists_eq_right, exists_eq, exists_and_left, and_true, true_and, decide_eq_true_eq, Nat.reduceAdd, Nat.reduceSub, Nat.add_zero, Nat.zero_add, List.cons.injEq, Bool.not_eq_true', decide_eq_false_iff_not, eq_self, reduceCtorEq, Bool.false_eq_true, if_true, if_false, ite_true, ite_false, and_self, tLc_range1, tLc_range2, tLc_list, tLc_tup, tYes_, wipe0, wipe1, tCallS_, rIxL_, rIxT_, rSlL_, rCat_, rSetL_, rRep_, rGcd_, tCallK_, gUnl_, tRaise_, decide_true, decide_false, not_true_eq_false, not_false_eq_true, false_and, or_false, false_or, and_false, and_assoc, exists_const, forall_const, forall_eq'])

section
variable {P : Program} {w : World} {K : PySem.W.Frag} {mg : Str → Option Value} {base : Heap}
theorem eqV_ss {a b : Str} : eqV (.str a) (.str b) = decide (a = b) := by
  show (a == b) = decide (a = b)
  by_cases h : a = b
  · subst h; simp
  · simp [h]
theorem eqV_ii {a b : Int} : eqV (.int a) (.int b) = decide (a = b) := by
  show (a == b) = decide (a = b)
  by_cases h : a = b
  · subst h; simp
  · simp [h]
theorem in2i {H : Hp} {p : Addr} {k a b : Int} {Q : VK} (hp : H p = some (.tup [.int a, .int b])) (q : Q (.bl (!(decide (k = a) || decide (k = b)))) H) : rIn K true (.int k) (.ref p) H Q := by
  refine ⟨p, _, rfl, .inr (SqT.of hp), rfl, rfl, ?_⟩
  have e : inV (.int k) [.int a, .int b] = (decide (k = a) || decide (k = b)) := by
    simp only [inV, List.any_cons, List.any_nil, Bool.or_false, eqV_ii, eq_comm]
  simp only [e]
  exact q
theorem in3i {H : Hp} {p : Addr} {k a b c : Int} {Q : VK} (hp : H p = some (.tup [.int a, .int b, .int c])) (q : Q (.bl (!(decide (k = a) || (decide (k = b) || decide (k = c))))) H) : rIn K true (.int k) (.ref p) H Q := by
  refine ⟨p, _, rfl, .inr (SqT.of hp), rfl, rfl, ?_⟩
  have e : inV (.int k) [.int a, .int b, .int c] = (decide (k = a) || (decide (k = b) || decide (k = c))) := by
    simp only [inV, List.any_cons, List.any_nil, Bool.or_false, eqV_ii, eq_comm]
  simp only [e]
  exact q
theorem notIn2 {H : Hp} {p : Addr} {k a b : Str} {Q : VK} (hp : H p = some (.tup [.str a, .str b])) (q : Q (.bl (!(decide (k = a) || decide (k = b)))) H) : rIn K true (.str k) (.ref p) H Q := by
  refine ⟨p, _, rfl, .inr (SqT.of hp), rfl, rfl, ?_⟩
  have e : inV (.str k) [.str a, .str b] = (decide (k = a) || decide (k = b)) := by
    simp only [inV, List.any_cons, List.any_nil, Bool.or_false, eqV_ss, eq_comm]
  simp only [e]
  exact q
theorem notIn3 {H : Hp} {p : Addr} {k a b c : Str} {Q : VK} (hp : H p = some (.tup [.str a, .str b, .str c])) (q : Q (.bl (!(decide (k = a) || (decide (k = b) || decide (k = c))))) H) : rIn K true (.str k) (.ref p) H Q := by
  refine ⟨p, _, rfl, .inr (SqT.of hp), rfl, rfl, ?_⟩
  have e : inV (.str k) [.str a, .str b, .str c] = (decide (k = a) || (decide (k = b) || decide (k = c))) := by
    simp only [inV, List.any_cons, List.any_nil, Bool.or_false, eqV_ss, eq_comm]
  simp only [e]
  exact q
theorem in2 {H : Hp} {p : Addr} {k a b : Str} {Q : VK} (hp : H p = some (.tup [.str a, .str b])) (q : Q (.bl (decide (k = a) || decide (k = b))) H) : rIn K false (.str k) (.ref p) H Q := by
  refine ⟨p, _, rfl, .inr (SqT.of hp), rfl, rfl, ?_⟩
  have e : inV (.str k) [.str a, .str b] = (decide (k = a) || decide (k = b)) := by
    simp only [inV, List.any_cons, List.any_nil, Bool.or_false, eqV_ss, eq_comm]
  simp only [e]
  exact q
theorem sc_deed : FnScope ["value"] ["value"] (defScope (top 33)) := ⟨rfl, rfl, rfl, by decide +kernel, rfl, by decide +kernel, by decide +kernel⟩
theorem ok_deed {f : Addr} {fd : FuncData} (T : Tx mg) (F : FD K "is_deed" (top 33) f fd) {f1 f2 : Addr} {fd1 fd2 : FuncData} (C1 : Cal P w K mg base CX0 1 "is_letter" ["value"] (spData isLetter K) f1 fd1) (C2 : Cal P w K mg base CX0 2 "is_goal" ["value"] (spData isGoal K) f2 fd2) : FnOk P w K mg base CX0 3 f fd ["value"] (spData isDeed K) := by
  obtain ⟨gis_letter, kis_letter, bis_letter, Fis_letter⟩ := C1
  obtain ⟨gis_goal, kis_goal, bis_goal, Fis_goal⟩ := C2
  refine F.ok sc_deed (fun vs H Q E h => ?_) (fun cdv A outer s H vs Q E hr h => ?_)
  · obtain ⟨_, _, rfl, _⟩ := h
    rfl
  · obtain ⟨x, d, rfl, hx, k⟩ := h
    refine ⟨_, (pss_cons (ps_if (PW.pt (pw_or (pt_not (pt_val (pe_callB call_isi (by rfl) T.b_isinstance (by decide +kernel) (pa_cons (pv 0) (pa_cons (pe_bltn (v := .ty "tuple") rfl T.b_tuple (by decide +kernel) rfl) pa_nil))))) (pw_or (pt_cmpR op_lt (pe_callB call_len_seq (by rfl) T.b_len PySem.boot_len (pa_cons (pv 0) pa_nil)) pe_int (nomark _)) (pw_or (pt_not (pt_val (pe_callB call_isi (by rfl) T.b_isinstance (by decide +kernel) (pa_cons (pe_ix (r := rIxT K) ix_tup (pv 0) pe_int (fun _ _ => rfl)) (pa_cons (pe_bltn (v := .ty "str") rfl T.b_str (by decide +kernel) rfl) pa_nil))))) (pw_or1 (pt_not (pt_val (pe_call Fis_letter (hr.mono (by omega)) rfl gis_letter kis_letter bis_letter .nil pass0 (pa_cons (pe_ix (r := rIxT K) ix_tup (pv 0) pe_int (fun _ _ => rfl)) pa_nil))))))))) (pss_one (ps_ret pe_bl)) pss_nil)
        (pss_cons (ps_if (pt_cmpR op_in_seq (pe_ix (r := rIxT K) ix_tup (pv 0) pe_int (fun _ _ => rfl)) (pe_tup (pa_cons pe_str (pa_cons pe_str pa_nil))) rfl) (pss_one (ps_ret (pe_cmpR op_eq (pe_callB call_len_seq (by rfl) T.b_len PySem.boot_len (pa_cons (pv 0) pa_nil)) pe_int (nomark _)))) pss_nil)
        (pss_cons (ps_if (pt_cmpR op_ne (pe_callB call_len_seq (by rfl) T.b_len PySem.boot_len (pa_cons (pv 0) pa_nil)) pe_int (nomark _)) (pss_one (ps_ret pe_bl)) pss_nil)
        (pss_one (ps_ret (pe_ifExp (pt_cmpR op_eq (pe_ix (r := rIxT K) ix_tup (pv 0) pe_int (fun _ _ => rfl)) pe_str (nomark _)) (pe_call Fis_letter (hr.mono (by omega)) rfl gis_letter kis_letter bis_letter .nil pass0 (pa_cons (pe_ix (r := rIxT K) ix_tup (pv 0) pe_int (fun _ _ => rfl)) pa_nil)) (pe_and (pe_cmpR op_in_seq (pe_ix (r := rIxT K) ix_tup (pv 0) pe_int (fun _ _ => rfl)) (pe_tup (pa_cons pe_str (pa_cons pe_str pa_nil))) rfl) (pe_one (pe_call Fis_goal (hr.mono (by omega)) rfl gis_goal kis_goal bis_goal .nil pass0 (pa_cons (pe_ix (r := rIxT K) ix_tup (pv 0) pe_int (fun _ _ => rfl)) pa_nil)))))))))), ?_⟩
    have k0 := k H (Same.refl H)
    refine sq fun U hU => ?_
    walk_at "rd"
    refine isi_tup hx ?_
    cases hx with
    | tup e ha =>
      simp only [isTup]
      walk_at "rd"
      refine ⟨_, .inr (SqT.of e), ?_⟩
      cases ha with
      | nil => exact k0
      | cons h1 ha =>
        rename_i v1 vs d1 ds
        cases ha with
        | nil =>
          have z : isDeed (.tuple [d1]) = false := by cases d1 <;> rfl
          rw [z] at k0
          exact k0
        | cons h2 ha =>
          rename_i v2 vs d2 ds
          rw [if_neg (by simp only [List.length_cons]; omega)]
          refine ⟨_, SqT.of e, _, atI_nn (by decide) rfl, isi_str h1 ?_⟩
          cases h1 with
          | str kk hk =>
            simp only [isStr]
            walk_at "rd"
            refine ⟨_, SqT.of e, _, atI_nn (by decide) rfl, _, _, rfl, h2, fun H1 s1 => ?_⟩
            have k1 := k H1 s1
            replace e := s1 _ _ e
            replace h2 := h2.up s1
            replace ha := ha.up s1
            by_cases l2 : isLetter d2 = true
            · rw [l2]
              walk_at "rd"
              refine hU _ _ ?_
              clear hU
              refine sq fun U hU => ?_
              walk_at "rd"
              refine ⟨_, SqT.of e, _, atI_nn (by decide) rfl, by decide, fun p hp => in2 upd_same ?_⟩
              have s2 : Same H1 (upd H1 p (.tup [.str "new", .str "drop"])) := same_new hp
              generalize (upd H1 p (HO.tup [V.str (Str.ofString "new"), V.str (Str.ofString "drop")])) = H2 at s2 ⊢
              replace e := s2 _ _ e
              replace ha := ha.up s2
              replace s2 := s1.trans s2
              walk_at "rd"
              have k2 := k _ s2
              rw [show isDeed (.tuple (.str kk :: d2 :: ds)) = (isLetter d2 && (if kk = "new" ∨ kk = "drop" then ds.isEmpty else deedRest kk ds)) from rfl, l2, Bool.true_and] at k2
              by_cases nd : kk = "new" ∨ kk = "drop"
              · rw [if_pos (by rw [Bool.or_eq_true, decide_eq_true_eq, decide_eq_true_eq]; exact nd)]
                rw [if_pos nd] at k2
                refine ⟨_, .inr (SqT.of e), ?_⟩
                cases ha with
                | nil => exact k2
                | cons _ ha =>
                  rename_i va vt da dt _
                  rw [show decide (((V.str kk :: v2 :: va :: vt).length : Int) = 2) = false from decide_eq_false (by simp only [List.length_cons]; omega)]
                  exact k2
              · rw [if_neg (by rw [Bool.or_eq_true, decide_eq_true_eq, decide_eq_true_eq]; exact nd)]
                rw [if_neg nd] at k2
                refine hU _ _ ?_
                clear hU
                refine sq fun U hU => ?_
                walk_at "rd"
                refine ⟨_, .inr (SqT.of e), ?_⟩
                cases ha with
                | nil => exact k2
                | cons h3 ha =>
                  cases ha with
                  | cons _ _ =>
                    rw [if_pos (by simp only [List.length_cons]; omega)]
                    exact k2
                  | nil =>
                    rename_i v3 d3
                    rw [if_neg (by simp only [List.length_cons, List.length_nil]; omega)]
                    refine hU _ _ ?_
                    clear hU
                    walk_at "rd"
                    refine ⟨_, SqT.of e, _, atI_nn (by decide) rfl, ?_⟩
                    have k3 := fun H' (hs : Same H2 H') => k H' (s2.trans hs)
                    rw [show isDeed (.tuple [.str kk, d2, d3]) = (isLetter d2 && (if kk = "new" ∨ kk = "drop" then false else if kk = "next" then isLetter d3 else (decide (kk = "copy") || decide (kk = "tie")) && isGoal d3)) from rfl, l2, Bool.true_and, if_neg nd] at k3
                    walk_at "rd"
                    by_cases nx : kk = "next"
                    · rw [if_pos nx]
                      rw [if_pos nx] at k3
                      exact ⟨_, SqT.of e, _, atI_nn (by decide) rfl, _, _, rfl, h3, k3⟩
                    · rw [if_neg nx]
                      rw [if_neg nx] at k3
                      refine ⟨_, SqT.of e, _, atI_nn (by decide) rfl, by decide, fun p hp => in2 upd_same ?_⟩
                      have s3 : Same H2 (upd H2 p (.tup [.str "copy", .str "tie"])) := same_new hp
                      generalize (upd H2 p (HO.tup [V.str (Str.ofString "copy"), V.str (Str.ofString "tie")])) = H3 at s3 ⊢
                      refine ⟨_, rfl, ?_⟩
                      by_cases ct : (decide (kk = "copy") || decide (kk = "tie")) = true
                      · rw [if_pos ct]
                        rw [ct, Bool.true_and] at k3
                        exact ⟨_, SqT.of (s3 _ _ e), _, atI_nn (by decide) rfl, _, _, rfl, h3.up s3, fun H' hs => k3 H' (s3.trans hs)⟩
                      · rw [if_neg ct]
                        rw [Bool.eq_false_iff.mpr ct, Bool.false_and] at k3
                        exact k3 _ s3
            · rw [Bool.eq_false_iff.mpr l2]
              have z : isDeed (.tuple (.str kk :: d2 :: ds)) = false := by
                show (isLetter d2 && _) = false
                rw [Bool.eq_false_iff.mpr l2]; rfl
              rw [z] at k1
              walk_at "rd"
              exact k1
          | _ => exact ⟨false, rfl, k0⟩
    | _ => exact ⟨false, rfl, k0⟩
end
end K39

set_option Elab.async false
set_option linter.all false
set_option maxRecDepth 100000
set_option maxHeartbeats 4000000
namespace K39S
open PySem PySem.Spec PyProof.Rows L2 Rd Dt Dq Pk
local macro_rules | `(tactic| walk_at "rd") => `(tactic| try simp only [tVar_, tC_, tOp_, tUn_, rI_, rI0_, rU_, eq_ii, ne_ii, eq_ss, ne_ss, eq_bb, ne_bb, tAndV_, tOrV_, tNotV_, tIf_, tTest_, tB_, tAnd_, tOr_, tNot_, tChain_, tNil_, tCons_, tTup_, tLst_, tCB_, tCall_, tSeq_, tNext_, tRet_, tRetN_, tDrop_, tBreak_, tNever_, tIfS_, tAsg_, gName_, gTup_, gCons_, gNil_, gSub_, tPar_, tPar3_, tSl_, tNoPart_, tPart_, tBM_, tFor_range1, tFor_range2, tFor_list, tFor_tup,
  L2.start, List.map_cons, List.map_nil, List.length_cons, List.length_nil, List.replicate, List.append_nil, List.nil_append, List.cons_append, List.getElem?_cons_zero, List.getElem?_cons_succ, List.set_cons_zero, List.set_cons_succ, Option.some.injEq, V.int.injEq, V.bl.injEq, V.str.injEq, V.ref.injEq, exists_eq_left, exists_eq_left', exists_eq_right, exists_eq, exists_and_left, and_true, true_and, decide_eq_true_eq, Nat.reduceAdd, Nat.reduceSub, Nat.add_zero, Nat.zero_add, List.cons.injEq, Bool.not_eq_true', decide_eq_false_iff_not, eq_self, reduceCtorEq, Bool.false_eq_true, if_true, if_false, ite_true, ite_false, and_self, tLc_range1, tLc_range2, tLc_list, tLc_tup, tYes_, wipe0, wipe1, tCallS_, rIxL_, rIxT_, rSlL_, rCat_, rSetL_, rRep_, rGcd_, tCallK_, gUnl_, tRaise_, decide_true, decide_false, not_true_eq_false, not_false_eq_true, false_and, or_false, false_or, and_false, and_assoc, exists_const, forall_const, forall_eq'])

def top (i : Nat) : Stmt := PySem.Challenge.pw_arrowcells_k39_one_deed_on_a_store.main.body.getD i (.Pass ⟨0, 0, 0, 0⟩)
structure Tx (mg : Str → Option Value) : Prop where
  b_len : mg "len" = none
  b_int : mg "int" = none
  b_isinstance : mg "isinstance" = none
  b_abs : mg "abs" = none
  b_divmod : mg "divmod" = none
  b_range : mg "range" = none
  b_max : mg "max" = none
  b_min : mg "min" = none
  b_repr : mg "repr" = none
  b_all : mg "all" = none
  b_list : mg "list" = none
  b_tuple : mg "tuple" = none
  b_str : mg "str" = none
  b_bool : mg "bool" = none
  b_dict : mg "dict" = none
  b_enumerate : mg "enumerate" = none
  b_sorted : mg "sorted" = none
  b_sum : mg "sum" = none
  b_set : mg "set" = none
  lets : ∃ t, mg "LETTERS" = some (.str "abcdefghijklmnopqrstuvwxyz" t)
  en : ∃ t, mg "END" = some (.int 0 t)
  mp : ∃ t, mg "MOST_PLACE" = some (.int 999 t)
  mc : ∃ t, mg "MOST_CELLS" = some (.int 500 t)
  mn : ∃ t, mg "MOST_NAMES" = some (.int 4 t)
abbrev abc : Str := "abcdefghijklmnopqrstuvwxyz"
abbrev fig : Str := "0123456789"
abbrev FD (K : PySem.W.Frag) (x : Str) (st : Stmt) (f : Addr) (fd : FuncData) : Prop := FunD K x x (defArgs st) (defBody st) (defScope st) [] [] f fd
abbrev KW (K : PySem.W.Frag) (fd : FuncData) (ps : List Str) : Prop := KBn K fd ps 0 ps (fun _ ws => ws) (fun _ zs => zs)
section
variable {P : Program} {w : World} {K : PySem.W.Frag} {mg : Str → Option Value} {base : Heap}
def WellAt (H : Hp) (u : Addr) : Prop := ∃ a b c : Int, H u = some (.lst [.int a, .int b, .int c]) ∧ 0 ≤ b ∧ b < 2147483648
theorem WellAt.but {H H' : Hp} {u : Addr} (h : WellAt H u) (s : Same H H') : WellAt H' u := by
  obtain ⟨a, b, c, e, q⟩ := h
  exact ⟨a, b, c, s _ _ e, q⟩
def spTake : Sp := fun vs H Q _ => ∃ (u : Addr) (n : Int), vs = [.ref u, .int n] ∧ WellAt H u ∧ 1 ≤ n ∧ n < 1073741824 ∧ ∀ (d : Int) (H' : Hp), But u H H' → WellAt H' u → 0 ≤ d → d < n → Q (.int d) H'
def spUrn (K : PySem.W.Frag) : Sp := fun vs H Q _ => ∃ (a : Addr) (ns : List Int) (t : Int), vs = [.ref a, .int t] ∧ SqL K H a (ns.map V.int) ∧ ns.length ≤ 63 ∧ 0 ≤ t ∧ t ≤ 5 ∧ ∀ (u : Addr) (H' : Hp), Same H H' → H u = none → WellAt H' u → Q (.ref u) H'
theorem some_but {H H' : Hp} {u : Addr} {a : Addr} {o : HO} (h : H a = some o) (hb : But u H H') (n : a ≠ u) : H' a = some o := hb _ _ n h
def spPick : Sp := fun vs H Q _ => ∃ (u : Addr) (x : V) (xs : List V), vs = [.ref u, x] ∧ WellAt H u ∧ x ≠ .ref u ∧ Row H x xs ∧ 1 ≤ xs.length ∧ xs.length ≤ 1000 ∧ ∀ (y : V) (H' : Hp), But u H H' → WellAt H' u → y ∈ xs → Q y H'
end
end K39S

set_option Elab.async false
set_option linter.all false
set_option maxRecDepth 100000
set_option maxHeartbeats 2000000
/-! fields of an instance, read and stored -/
namespace Ob
open PySem PySem.Spec PyProof.Rows L2 Rd Dt Dq Pk
section
variable {σ : L2.St} {H : Hp} {Q : VK} {D : Ends} {ta tv : TE} {K : PySem.W.Frag} {f : Str}
def FA (K : PySem.W.Frag) (H : Hp) (a : Addr) (f : Str) (v : V) : Prop := ∃ C dx fs, H a = some (.ins C dx fs) ∧ Cls K C ∧ NoAttr K C f ∧ fs.lookup f = some v
def SA (K : PySem.W.Frag) (H : Hp) (a : Addr) (f : Str) (C dx : Addr) (fs : List (Str × V)) : Prop := H a = some (.ins C dx fs) ∧ Cls K C ∧ NoAttr K C f ∧ fs.length < 1000
theorem tFld_ : tFld K ta f σ H Q = ta σ H fun x H1 => ∃ a v, x = .ref a ∧ FA K H1 a f v ∧ Q v H1 := by
  unfold tFld
  congr 1
  funext x H1
  refine propext ⟨?_, ?_⟩
  · rintro ⟨a, C, dx, fs, v, e, h1, h2, h3, h4, q⟩
    exact ⟨a, v, e, ⟨C, dx, fs, h1, h2, h3, h4⟩, q⟩
  · rintro ⟨a, v, e, ⟨C, dx, fs, h1, h2, h3, h4⟩, q⟩
    exact ⟨a, C, dx, fs, v, e, h1, h2, h3, h4, q⟩
theorem sFld_ : sFld K ta tv f D σ H = tv σ H fun y H1 => ta σ H1 fun x H2 => ∃ a C dx fs, x = .ref a ∧ SA K H2 a f C dx fs ∧ D.nx σ (upd H2 a (.ins C dx (putF f y fs))) := by
  unfold sFld
  congr 1
  funext y H1
  congr 1
  funext x H2
  refine propext ⟨?_, ?_⟩
  · rintro ⟨a, C, dx, fs, e, h1, h2, h3, h4, q⟩
    exact ⟨a, C, dx, fs, e, ⟨h1, h2, h3, h4⟩, q⟩
  · rintro ⟨a, C, dx, fs, e, ⟨h1, h2, h3, h4⟩, q⟩
    exact ⟨a, C, dx, fs, e, h1, h2, h3, h4, q⟩
end
theorem pe_fldK {X : Cx} {K : PySem.W.Frag} {e : Expr} {f : Str} {pos : Pos} {ta : TE} (hK : X.K = K) (he : PE X e ta) (hb : attributeBase e f X.env (eval e X.env) = eval e X.env) : PE X (.Attribute e f pos) (tFld K ta f) := by
  subst hK
  exact pe_fld he hb
end Ob

set_option Elab.async false
set_option linter.all false
set_option maxRecDepth 100000
set_option maxHeartbeats 2000000
/-! a list beside the empty one -/
namespace Le
open PySem PySem.Spec PyProof.Rows L2 Rd
def rNeLE (K : PySem.W.Frag) : R2 := fun x y H Q => ∃ (a b : Addr) (xs : List V), x = .ref a ∧ y = .ref b ∧ SqL K H a xs ∧ SqL K H b [] ∧ Q (.bl (!decide (xs = []))) H
theorem op_neLE {X : Cx} (hu : X.A.units + 64 < cLine) : OpR X (compareOp .NotEq) (rNeLE X.K) := by
  intro pins s σ H x y v u Q I rx ry h
  obtain ⟨a, b, xs, rfl, rfl, ha, hb, q⟩ := h
  cases rx
  cases ry
  obtain ⟨its, rv, tu, _⟩ := I.list ha
  obtain ⟨its2, rv2, tu2, _⟩ := I.list hb
  cases rv2
  have hl := rv.length
  by_cases e : xs = []
  · subst e
    cases rv
    refine SeqAt.RcNeAt.lists (e := fun _ => true) tu.isList tu2.isList rfl (by omega) (fun j _ h2 => (Nat.not_lt_zero _ h2).elim) X.prog X.w _ _ ?_
    exact ⟨.bl false, H, I, rfl, by simpa using q⟩
  · have hn : its ≠ [] := fun z => e (List.eq_nil_of_length_eq_zero (by rw [hl, z]; rfl))
    refine SeqAt.RcNeAt.lists_lengths tu.isList tu2.isList ?_ (by omega) X.prog X.w _ _ ?_
    · have := List.length_pos_iff.mpr hn
      simp only [List.size_toArray, List.length_nil, bne_iff_ne, ne_eq]
      omega
    · exact ⟨.bl true, H, I, rfl, by rw [decide_eq_false e] at q; exact q⟩
def rEqLE (K : PySem.W.Frag) : R2 := fun x y H Q => ∃ (a b : Addr) (xs : List V), x = .ref a ∧ y = .ref b ∧ SqL K H a xs ∧ SqL K H b [] ∧ Q (.bl (decide (xs = []))) H
theorem op_eqLE {X : Cx} (hu : X.A.units + 64 < cLine) : OpR X (compareOp .Eq) (rEqLE X.K) := by
  intro pins s σ H x y v u Q I rx ry h
  obtain ⟨a, b, xs, rfl, rfl, ha, hb, q⟩ := h
  cases rx
  cases ry
  obtain ⟨its, rv, tu, _⟩ := I.list ha
  obtain ⟨its2, rv2, tu2, _⟩ := I.list hb
  cases rv2
  have hl := rv.length
  by_cases e : xs = []
  · subst e
    cases rv
    refine SeqAt.eq_listAt (e := fun _ => true) tu.isList tu2.isList rfl (by omega) (fun j _ h2 => (Nat.not_lt_zero _ h2).elim) ?_
    exact ⟨.bl true, H, I, rfl, by simpa using q⟩
  · have hn : its ≠ [] := fun z => e (List.eq_nil_of_length_eq_zero (by rw [hl, z]; rfl))
    refine SeqAt.eq_list_lengthsAt tu.isList tu2.isList ?_ (by omega) ?_
    · have := List.length_pos_iff.mpr hn
      simp only [List.size_toArray, List.length_nil, bne_iff_ne, ne_eq]
      omega
    · exact ⟨.bl false, H, I, rfl, by rw [decide_eq_false e] at q; exact q⟩
theorem rNeLE_ {K : PySem.W.Frag} {x y : V} {H : Hp} {Q : VK} : rNeLE K x y H Q = ∃ (a b : Addr) (xs : List V), x = .ref a ∧ y = .ref b ∧ SqL K H a xs ∧ SqL K H b [] ∧ Q (.bl (!decide (xs = []))) H := rfl
theorem rEqLE_ {K : PySem.W.Frag} {x y : V} {H : Hp} {Q : VK} : rEqLE K x y H Q = ∃ (a b : Addr) (xs : List V), x = .ref a ∧ y = .ref b ∧ SqL K H a xs ∧ SqL K H b [] ∧ Q (.bl (decide (xs = []))) H := rfl
theorem op_neLEK {X : Cx} {K : PySem.W.Frag} (hK : X.K = K) (hu : X.A.units + 64 < cLine) : OpR X (compareOp .NotEq) (rNeLE K) := by
  subst hK
  exact op_neLE hu
theorem op_eqLEK {X : Cx} {K : PySem.W.Frag} (hK : X.K = K) (hu : X.A.units + 64 < cLine) : OpR X (compareOp .Eq) (rEqLE K) := by
  subst hK
  exact op_eqLE hu
end Le

set_option Elab.async false
set_option linter.all false
set_option maxRecDepth 100000
set_option maxHeartbeats 2000000
/-! ranges with a step -/
namespace Rg
open PySem PySem.Spec PyProof.Rows L2 Rd
section
variable {TA1 : TA} {g : TG} {tb : TS} {D : Ends} {σ : L2.St} {H : Hp} {tt : TT} {te : TE} {vs : List Nat} {Q : VK}
theorem tFor_range3 : tFor (iRng3 TA1) g tb D σ H = TA1 σ H fun vs H1 => ∃ (i j c : Int) (n : Nat), vs = [.int i, .int j, .int c] ∧ RgC i j c n ∧ tFor (fun _ H R => R (Itc i c n) H) g tb D σ H1 := rfl
theorem for_c {lo c : Int} {n : Nat} (Pv : Nat → L2.St → Hp → Prop) (h0 : Pv 0 σ H)
    (hs : ∀ i σ H, i < n → Pv i σ H → g (.int (lo + (i : Nat) * c)) σ H fun σ2 H2 => tb { D with nx := Pv (i + 1), ct := Pv (i + 1), bk := D.nx } σ2 H2) (hd : ∀ σ H, Pv n σ H → D.nx σ H) :
    tFor (fun _ H R => R (Itc lo c n) H) g tb D σ H := for_it walk_rangeC Pv h0 (fun _ _ _ _ _ => trivial) (fun i x σ H H' hi hp hy => by
      obtain ⟨e, hx⟩ := hy
      subst e hx
      exact hs i σ _ hi hp) hd
theorem tLc_range3 : tLc (iRng3 TA1) g tt te vs σ H Q = TA1 σ H fun ws H1 => ∃ (i j c : Int) (n : Nat), ws = [.int i, .int j, .int c] ∧ RgC i j c n ∧ tLc (fun _ H R => R (Itc i c n) H) g tt te vs σ H1 Q := rfl
end
/-! ### list(range(i, j, c)) -/
def rgC (i c : Int) (n : Nat) : List V := (List.range n).map fun k => V.int (i + (k : Nat) * c)
theorem rgC_length (i c : Int) (n : Nat) : (rgC i c n).length = n := by unfold rgC; rw [List.length_map, List.length_range]
theorem vals_rgC {i c : Int} {n : Nat} {acc : Array Value} (h : ItemsOf (fun k v => ∃ t, v = .int (i + k * c) t) acc n) : Vals (rgC i c n) acc.toList := by
  have e : acc.toList.length = n := by rw [Array.length_toList]; exact h.1
  unfold rgC
  rw [← e]
  refine vals_of_get acc.toList _ fun j u hj => ?_
  obtain ⟨t, rfl⟩ := h.2 j u (by rw [← hj, Array.getElem?_toList])
  exact ⟨t, rfl⟩
def tLstC (ta : TA) : TE := fun σ H Q => ta σ H fun vs H1 => ∃ (i j c : Int) (n : Nat), vs = [.int i, .int j, .int c] ∧ RgC i j c n ∧ n ≤ 2 ^ 24 ∧ ∀ q, H1 q = none → Q (.ref q) (upd H1 q (.lst (rgC i c n)))
theorem tLstC_ {ta : TA} {σ : L2.St} {H : Hp} {Q : VK} : tLstC ta σ H Q = ta σ H fun vs H1 => ∃ (i j c : Int) (n : Nat), vs = [.int i, .int j, .int c] ∧ RgC i j c n ∧ n ≤ 2 ^ 24 ∧ ∀ q, H1 q = none → Q (.ref q) (upd H1 q (.lst (rgC i c n))) := rfl
theorem pe_listC {X : Cx} {a b c : Expr} {ta : TA} {p pos p' pos' : Pos} (hcm : X.calm = true) (hl : Gl X "list") (hlm : X.mg "list" = none) (hg : Gl X "range") (hm : X.mg "range" = none) (ha : PA X [a, b, c] ta)
    (hs : starEach [a, b, c] X.env = (false, eval a X.env) :: starEach [b, c] X.env := by rfl) (hpl : (backTo pos (starEach [b, c] X.env)).any (·.1) = false := by rfl)
    (na : starEach [.Call (.Name "range" p) [a, b, c] [] pos] X.env = (false, eval (.Call (.Name "range" p) [a, b, c] [] pos) X.env) :: starEach [] X.env := by rfl) :
    PE X (.Call (.Name "list" p') [.Call (.Name "range" p) [a, b, c] [] pos] [] pos') (tLstC ta) := by
  refine ⟨fun pins s σ H Q I h => ?_⟩
  refine Call_ (ld_blt I hl hlm boot_list (PyProof.Rows.callWith_type1 (args_cons (Call_ (ld_blt I hg hm boot_range (PyProof.Rows.callWith_type1 (thn (ha.run pos pins s σ H _ I h) fun us s1 ⟨vs, H1, I1, r1, q1⟩ => ?_) hs hpl))) na) na))
  obtain ⟨i, j, k, n, e, ⟨c0, c1, c2, c3⟩, hn, q⟩ := q1
  subst e
  cases r1 with
  | cons r rr =>
    cases rr with
    | cons r' rr =>
      cases rr with
      | cons r'' rr =>
        cases rr
        obtain ⟨t, rfl⟩ := r
        obtain ⟨t', rfl⟩ := r'
        obtain ⟨t'', rfl⟩ := r''
        refine call_range_3 c0 (args_nil ?_) (.inl (PyProof.noPylong_small c1))
        have I2 : Inv X pins σ H1 { s1 with heap := s1.heap.push { cls := .type "range", data := .fields #[.int i t, .int j t', .int k t''] } } := I1.kept (t' := s1.toks) fun b o e => Heap.get?_push_of_some _ e
        refine call_list_range (n := n) (I2.ok.hd hcm) (IsRange.new ..) c2 c3 hn fun h' tk acc c' hk e' hi => ?_
        refine ⟨.ref _, upd H1 _ (.lst (rgC i k n)), I2.laid hk (Nat.le_refl _) (show ObjOk X.prog X.w _ _ _ (.lst (rgC i k n)) from ⟨?_, acc.toList, c', vals_rgC hi, ?_⟩), rfl, q _ (I2.hok.fresh (Nat.le_refl _))⟩
        · rw [rgC_length, sizeLine_eq]; omega
        · rw [Array.toArray_toList]; exact e'
/-- how many -/
def cnt (a b c : Nat) : Nat := if a < b then (b - a - 1) / c + 1 else 0
theorem cnt_size {a b c : Nat} (hc : 0 < c) : Builtin.Range.rangeSize a b c = (cnt a b c : Nat) := by
  unfold Builtin.Range.rangeSize cnt
  rw [if_pos (show (c : Int) > 0 by omega)]
  by_cases h : a < b
  · rw [if_pos (show (a : Int) < b by omega), if_pos h, show (b : Int) - a - 1 = ((b - a - 1 : Nat) : Int) by omega]
    rfl
  · rw [if_neg (show ¬ (a : Int) < b by omega), if_neg h]
    rfl
theorem cnt_le (a b c : Nat) : cnt a b c ≤ b := by
  unfold cnt
  split
  · have := Nat.div_le_self (b - a - 1) c
    omega
  · omega
theorem rgc {a b c : Nat} (hc : 0 < c) (ha : a < 1000000) (hb : b < 1000000) (hc' : c < 1000000) : RgC a b c (cnt a b c) := by
  have hl := cnt_le a b c
  refine ⟨by omega, by omega, ?_, cnt_size hc⟩
  unfold Builtin.Range.small
  rw [cnt_size hc]
  simp only [Builtin.Range.rangeFitsLong, Bool.and_eq_true, Bool.or_eq_true, decide_eq_true_eq, beq_iff_eq, show (c : Int) > 0 by omega, if_true]
  omega
/-- the numbers of it -/
theorem cnt_lt {a b c k : Nat} (hc : 0 < c) : k < cnt a b c ↔ a + k * c < b := by
  unfold cnt
  split
  · rw [Nat.lt_succ_iff, Nat.le_div_iff_mul_le hc]
    omega
  · constructor
    · intro h; omega
    · intro h
      have := Nat.zero_le (k * c)
      omega
/-! a range object, walked -/
def iRngV (te : TE) : TI := fun σ H R => te σ H fun x H1 => ∃ (a : Addr) (lo hi : Int), x = .ref a ∧ H1 a = some (.rng lo hi) ∧ (-(2 ^ 62) ≤ lo ∧ lo < 2 ^ 62 ∧ -(2 ^ 62) ≤ hi ∧ hi < 2 ^ 62) ∧ R (Itr lo (hi - lo).toNat) H1
theorem pi_rngV {X : Cx} {tg e : Expr} {te : TE} (he : PE X e te) : PI X tg e (iRngV te) := by
  refine ⟨fun pins s σ H R I h => ?_⟩
  refine thn (he.run pins s σ H _ I h) fun v s1 ⟨x, H1, I1, r1, q1⟩ => ?_
  obtain ⟨a, lo, hi, ex, ea, ⟨h1, h2, h3, h4⟩, q⟩ := q1
  subst ex
  cases r1
  obtain ⟨t, u, v, eo⟩ := I1.hok a _ ea
  refine wpAny_pyIter_range (show IsRange s1.heap a lo hi 1 t u v from eo) (small_one h1 h2 h3 h4) ?_
  refine pi_one (tk := s1.toks) I1 _ (turn_range _ lo (hi - lo).toNat) ?_ q
  have e1 : lo + ((0 : Nat) : Int) * 1 = lo := by simp
  have e2 : (((hi - lo).toNat : Nat) : Int) - ((0 : Nat) : Int) = Builtin.Range.rangeSize lo hi 1 := by rw [rangeSize_one]; split <;> omega
  show IsRangeIter _ _ (lo + ((0 : Nat) : Int) * 1) ((((hi - lo).toNat : Nat) : Int) - ((0 : Nat) : Int)) 1
  rw [e1, e2]
  exact Heap.get?_push_size _ rfl
theorem tLc_rngV {te ta : TE} {g : TG} {tt : TT} {vs : List Nat} {σ : L2.St} {H : Hp} {Q : VK} : tLc (iRngV te) g tt ta vs σ H Q = te σ H fun x H1 => ∃ (a : Addr) (lo hi : Int), x = .ref a ∧ H1 a = some (.rng lo hi) ∧ (-(2 ^ 62) ≤ lo ∧ lo < 2 ^ 62 ∧ -(2 ^ 62) ≤ hi ∧ hi < 2 ^ 62) ∧ tLc (fun _ H R => R (Itr lo (hi - lo).toNat) H) g tt ta vs σ H1 Q := rfl
end Rg

set_option Elab.async false
set_option linter.all false
set_option maxRecDepth 100000
set_option maxHeartbeats 2000000
/-! sets of numbers that come round, as plain functions -/
namespace Ln
structure Per (f : Nat → Bool) (s p : Nat) : Prop where
  pos : 0 < p
  eq : ∀ n, s ≤ n → f (n + p) = f n
theorem Per.mono {f : Nat → Bool} {s s' p : Nat} (h : Per f s p) (e : s ≤ s') : Per f s' p := ⟨h.pos, fun n hn => h.eq n (Nat.le_trans e hn)⟩
theorem Per.steps {f : Nat → Bool} {s p : Nat} (h : Per f s p) : ∀ (k n : Nat), s ≤ n → f (n + k * p) = f n
  | 0, n, _ => by rw [Nat.zero_mul, Nat.add_zero]
  | k + 1, n, hn => by
    rw [Nat.add_mul, Nat.one_mul, ← Nat.add_assoc, h.eq (n + k * p) (by omega), h.steps k n hn]
theorem Per.lower {f : Nat → Bool} {s s' p q : Nat} (h : Per f s p) (g : Per f s' q) : Per f s q := ⟨g.pos, fun n hn => by
  have e1 := h.steps s' (n + q) (by omega)
  have e2 := h.steps s' n hn
  have hs : s' ≤ n + s' * p := Nat.le_trans (Nat.le_mul_of_pos_right s' h.pos) (Nat.le_add_left _ _)
  have e3 := g.eq (n + s' * p) hs
  rw [← e1, ← e2, ← e3]
  congr 1
  omega⟩
theorem Per.sub {f : Nat → Bool} {s p q : Nat} (h : Per f s p) (g : Per f s q) (e : p < q) : Per f s (q - p) := ⟨by omega, fun n hn => by
  rw [← h.eq (n + (q - p)) (by omega), ← g.eq n hn]
  congr 1
  omega⟩
theorem Per.gcd {f : Nat → Bool} {s : Nat} : ∀ (m p q : Nat), p + q ≤ m → Per f s p → Per f s q → Per f s (Nat.gcd p q)
  | 0, p, q, hm, hp, _ => by have := hp.pos; omega
  | m + 1, p, q, hm, hp, hq => by
    have := hp.pos
    have := hq.pos
    by_cases e : p = q
    · rw [e, Nat.gcd_self]; exact hq
    · by_cases l : p < q
      · have h1 := Per.gcd m p (q - p) (by omega) hp (hp.sub hq l)
        have e2 : Nat.gcd p (q - p) = Nat.gcd p q := by
          have := Nat.gcd_add_self_right p (q - p)
          rw [Nat.sub_add_cancel (by omega)] at this
          exact this.symm
        rwa [e2] at h1
      · have h1 := Per.gcd m (p - q) q (by omega) (hq.sub hp (by omega)) hq
        have e2 : Nat.gcd (p - q) q = Nat.gcd p q := by
          have := Nat.gcd_add_self_left q (p - q)
          rw [Nat.sub_add_cancel (by omega)] at this
          exact this.symm
        rwa [e2] at h1
/-- the least start and the least step -/
structure Norm (f : Nat → Bool) (s t : Nat) : Prop where
  per : Per f s t
  min : ∀ s' p, Per f s' p → t ∣ p
  low : ∀ s', Per f s' t → s ≤ s'
theorem Norm.unique {f : Nat → Bool} {s t s' t' : Nat} (h : Norm f s t) (g : Norm f s' t') : s = s' ∧ t = t' := by
  have e : t = t' := Nat.dvd_antisymm (h.min _ _ g.per) (g.min _ _ h.per)
  subst e
  exact ⟨Nat.le_antisymm (h.low _ g.per) (g.low _ h.per), rfl⟩
theorem Norm.make {f : Nat → Bool} {start step d s : Nat} (hp : Per f start step) (hd : d ∣ step) (pd : Per f start d) (least : ∀ e, 0 < e → e ∣ step → Per f start e → d ≤ e) (hs : Per f s d) (hlow : s = 0 ∨ f (s - 1) ≠ f (s - 1 + d)) : Norm f s d := by
  refine ⟨hs, fun s' p h => ?_, fun s' h => ?_⟩
  · have h1 := hp.lower h
    have h2 := Per.gcd (d + p) d p (Nat.le_refl _) pd h1
    have h3 := least _ h2.pos (Nat.dvd_trans (Nat.gcd_dvd_left d p) hd) h2
    have h4 := Nat.le_of_dvd pd.pos (Nat.gcd_dvd_left d p)
    have e : Nat.gcd d p = d := Nat.le_antisymm h4 h3
    rw [← e]
    exact Nat.gcd_dvd_right d p
  · rcases hlow with z | z
    · omega
    · apply Classical.byContradiction
      intro hn
      exact z (h.eq (s - 1) (by omega)).symm
/-- beyond the start a number stands for one of the first round -/
theorem Per.fold {f : Nat → Bool} {s t : Nat} (h : Per f s t) (n : Nat) (hn : s ≤ n) : f n = f (s + (n - s) % t) := by
  have e := h.steps ((n - s) / t) (s + (n - s) % t) (by omega)
  rw [← e]
  congr 1
  have := Nat.mod_add_div (n - s) t
  rw [Nat.mul_comm] at this
  omega
theorem Per.ext {f g : Nat → Bool} {s t : Nat} (h : Per f s t) (k : Per g s t) (e : ∀ n, n < s + t → f n = g n) : f = g := by
  funext n
  by_cases hn : n < s
  · exact e n (by omega)
  · rw [h.fold n (by omega), k.fold n (by omega)]
    have := Nat.mod_lt (n - s) h.pos
    exact e _ (by omega)
/-- the bits of a set from 0 on -/
structure Bits (f : Nat → Bool) (B m : Nat) : Prop where
  lt : B < 2 ^ m
  eq : ∀ n, n < m → B.testBit n = f n
theorem Bits.at {f : Nat → Bool} {B m : Nat} (h : Bits f B m) (n : Nat) : B.testBit n = (f n && decide (n < m)) := by
  by_cases hn : n < m
  · rw [h.eq n hn, decide_eq_true hn, Bool.and_true]
  · rw [decide_eq_false hn, Bool.and_false]
    exact Nat.testBit_lt_two_pow (Nat.lt_of_lt_of_le h.lt (Nat.pow_le_pow_right (by decide) (by omega)))
theorem Bits.unique {f : Nat → Bool} {B C m : Nat} (h : Bits f B m) (g : Bits f C m) : B = C := Nat.eq_of_testBit_eq fun n => by rw [h.at, g.at]
theorem Bits.cut {f : Nat → Bool} {B m k : Nat} (h : Bits f B m) (e : k ≤ m) : Bits f (B &&& (2 ^ k - 1)) k := by
  refine ⟨Nat.lt_of_le_of_lt Nat.and_le_right (by have := Nat.two_pow_pos k; omega), fun n hn => ?_⟩
  rw [Nat.testBit_and, Nat.testBit_two_pow_sub_one, decide_eq_true hn, Bool.and_true, h.eq n (by omega)]
/-- what the program looks at: the round has a shorter period -/
theorem shorter {f : Nat → Bool} {B start step e : Nat} (hb : Bits f B (start + step)) (hp : Per f start step) (he : 0 < e) (hd : e ∣ step) :
    ((B >>> start) >>> e = (B >>> start) &&& (2 ^ (step - e) - 1)) ↔ Per f start e := by
  have le : e ≤ step := Nat.le_of_dvd hp.pos hd
  constructor
  · intro h
    have one : ∀ j, j + e < step → f (start + j + e) = f (start + j) := fun j hj => by
      have h1 := congrArg (fun x => x.testBit j) h
      simp only [Nat.testBit_shiftRight, Nat.testBit_and, Nat.testBit_two_pow_sub_one] at h1
      rw [decide_eq_true (show j < step - e by omega), Bool.and_true] at h1
      rw [hb.eq _ (by omega), hb.eq _ (by omega)] at h1
      rw [← h1]
      congr 1
      omega
    have chain : ∀ (k i : Nat), i + k * e < step → f (start + i + k * e) = f (start + i) := fun k => by
      induction k with
      | zero => intro i _; rw [Nat.zero_mul, Nat.add_zero]
      | succ k ih =>
        intro i hi
        rw [Nat.add_mul, Nat.one_mul] at hi ⊢
        rw [← ih i (by omega)]
        have := one (i + k * e) (by omega)
        rw [← Nat.add_assoc] at this
        rw [← this]
        congr 1
        omega
    refine ⟨he, fun n hn => ?_⟩
    obtain ⟨k, hk⟩ := hd
    obtain ⟨j, rfl⟩ : ∃ j, n = start + j := ⟨n - start, by omega⟩
    have hr := Nat.mod_lt j hp.pos
    have dj : j = j % step + (j / step) * step := by
      have := Nat.mod_add_div j step
      rw [Nat.mul_comm] at this
      omega
    generalize j % step = r at hr dj
    generalize j / step = q at dj
    subst dj
    have e1 : f (start + (r + q * step)) = f (start + r) := by
      rw [← Nat.add_assoc]
      exact hp.steps q (start + r) (by omega)
    have e2 : f (start + (r + q * step) + e) = f (start + r + e) := by
      have := hp.steps q (start + r + e) (by omega)
      rw [← this]
      congr 1
      omega
    rw [e1, e2]
    by_cases c : r + e < step
    · exact one r c
    · have hk0 : 0 < k := by
        rcases Nat.eq_zero_or_pos k with z | z
        · rw [z, Nat.mul_zero] at hk
          have := hp.pos
          omega
        · exact z
      have hk1 : step = (k - 1) * e + e := by
        rw [hk, Nat.mul_comm]
        obtain ⟨k', rfl⟩ : ∃ k', k = k' + 1 := ⟨k - 1, by omega⟩
        rw [Nat.add_mul, Nat.one_mul, Nat.add_sub_cancel]
      obtain ⟨i, hi, hie⟩ : ∃ i, r = (k - 1) * e + i ∧ i < e := ⟨r - (k - 1) * e, by omega, by omega⟩
      have e3 : f (start + r + e) = f (start + i) := by
        have := hp.eq (start + i) (by omega)
        rw [← this]
        congr 1
        omega
      have e4 := chain (k - 1) i (by omega)
      rw [e3, ← e4]
      congr 1
      omega
  · intro h
    apply Nat.eq_of_testBit_eq
    intro j
    simp only [Nat.testBit_shiftRight, Nat.testBit_and, Nat.testBit_two_pow_sub_one]
    rw [hb.at, hb.at]
    by_cases c : e + j < step
    · rw [decide_eq_true (show start + (e + j) < start + step by omega), decide_eq_true (show start + j < start + step by omega), decide_eq_true (show j < step - e by omega), Bool.and_true, Bool.and_true, Bool.and_true]
      rw [← h.eq (start + j) (by omega)]
      congr 1
      omega
    · rw [decide_eq_false (show ¬ start + (e + j) < start + step by omega), decide_eq_false (show ¬ j < step - e by omega), Bool.and_false, Bool.and_false]
/-- one bit of it -/
theorem bit_at (B n : Nat) : (B >>> n) &&& 1 = if B.testBit n then 1 else 0 := by
  rw [Nat.and_one_is_mod, Nat.shiftRight_eq_div_pow]
  have h := Nat.testBit_eq_decide_div_mod_eq (x := B) (i := n)
  have h2 := Nat.mod_lt (B / 2 ^ n) (show 0 < 2 by decide)
  by_cases c : B / 2 ^ n % 2 = 1
  · rw [h, decide_eq_true c, if_pos rfl]; exact c
  · rw [h, decide_eq_false c, if_neg (by decide)]; omega
end Ln

set_option Elab.async false
set_option linter.all false
set_option maxRecDepth 100000
set_option maxHeartbeats 2000000
/-! words of sets -/
namespace Ln
open PySem PySem.Spec PyProof.Rows L2 Rd Dt
def fW (ws : List (Nat × Nat)) (n : Nat) : Bool := ws.any fun w => decide (n = w.1) || (decide (0 < w.2) && (decide (w.1 < n) && decide ((n - w.1) % w.2 = 0)))
def topW (ws : List (Nat × Nat)) : Nat := ws.foldl (fun m w => max m (w.1 + 1)) 0
theorem top_le : ∀ (ws : List (Nat × Nat)) (m : Nat), m ≤ ws.foldl (fun m w => max m (w.1 + 1)) m ∧ ∀ w ∈ ws, w.1 + 1 ≤ ws.foldl (fun m w => max m (w.1 + 1)) m
  | [], m => ⟨Nat.le_refl _, fun _ z => nomatch z⟩
  | w :: ws, m => by
    rw [List.foldl_cons]
    obtain ⟨h1, h2⟩ := top_le ws (max m (w.1 + 1))
    refine ⟨by omega, fun x hx => ?_⟩
    rcases List.mem_cons.mp hx with rfl | hx
    · omega
    · exact h2 x hx
theorem per_W {ws : List (Nat × Nat)} {p : Nat} (hp : 0 < p) (h : ∀ w ∈ ws, w.2 = 0 ∨ w.2 ∣ p) : Per (fW ws) (topW ws) p := ⟨hp, fun n hn => by
  unfold fW
  rw [Bool.eq_iff_iff, List.any_eq_true, List.any_eq_true]
  have key : ∀ w ∈ ws, (decide (n + p = w.1) || (decide (0 < w.2) && (decide (w.1 < n + p) && decide ((n + p - w.1) % w.2 = 0)))) = (decide (n = w.1) || (decide (0 < w.2) && (decide (w.1 < n) && decide ((n - w.1) % w.2 = 0)))) := fun w hw => by
    have h1 := (top_le ws 0).2 w hw
    have h2 : w.1 + 1 ≤ topW ws := h1
    rw [decide_eq_false (show ¬ n + p = w.1 by omega), decide_eq_false (show ¬ n = w.1 by omega), decide_eq_true (show w.1 < n + p by omega), decide_eq_true (show w.1 < n by omega)]
    rcases h w hw with z | ⟨k, z⟩
    · rw [z]; rfl
    · have e : n + p - w.1 = (n - w.1) + w.2 * k := by omega
      rw [e, Nat.add_mul_mod_self_left]
  exact ⟨fun ⟨w, hw, e⟩ => ⟨w, hw, by rw [← key w hw]; exact e⟩, fun ⟨w, hw, e⟩ => ⟨w, hw, by rw [key w hw]; exact e⟩⟩⟩
/-! ### texts -/
def numT (n : Nat) : Str := Str.ofString (toString (n : Int))
def sufT (d : Nat) : Str := if d = 0 then "" else if d = 1 then "+" else "+" ++ numT d
def wordT (w : Nat × Nat) : Str := numT w.1 ++ sufT w.2
def setT (ws : List (Nat × Nat)) : Str := if ws = [] then "none" else Txt.join " " (ws.map wordT)
theorem numT_len {n : Nat} (h : n < 2 ^ 20) : (numT n).length ≤ 21 := by
  have f := Fit.int (i := (n : Int)) (k := 20) (by decide) (by decide) (by rw [Int.natAbs_natCast]; exact h)
  have e : (PyData.shown (.int (n : Int))) = numT n := by unfold PyData.shown; rfl
  rw [← e]
  exact f.sz
theorem sufT_len {n : Nat} (h : n < 2 ^ 20) : (sufT n).length ≤ 22 := by
  unfold sufT
  split
  · decide
  · split
    · decide
    · rw [Str.length_append]
      have := numT_len h
      have e : ("+" : Str).length = 1 := by decide
      omega
theorem wordT_len {w : Nat × Nat} (h1 : w.1 < 2 ^ 20) (h2 : w.2 < 2 ^ 20) : (wordT w).length ≤ 43 := by
  unfold wordT
  rw [Str.length_append]
  have := numT_len h1
  have := sufT_len h2
  omega
/-! ### in the heap -/
inductive WsAt (H : Hp) : List V → List (Nat × Nat) → Prop
  | nil : WsAt H [] []
  | cons {b : Addr} {w : Nat × Nat} {xs : List V} {ws : List (Nat × Nat)} : H b = some (.tup [.int w.1, .int w.2]) → WsAt H xs ws → WsAt H (.ref b :: xs) (w :: ws)
theorem WsAt.keep {H H' : Hp} (hs : ∀ b x y, H b = some (.tup [x, y]) → H' b = some (.tup [x, y])) : ∀ {xs : List V} {ws : List (Nat × Nat)}, WsAt H xs ws → WsAt H' xs ws
  | _, _, .nil => .nil
  | _, _, .cons e h => .cons (hs _ _ _ e) (h.keep hs)
theorem WsAt.up {H H' : Hp} (s : Same H H') {xs : List V} {ws : List (Nat × Nat)} (h : WsAt H xs ws) : WsAt H' xs ws := h.keep fun b x y e => s _ _ e
theorem WsAt.len {H : Hp} : ∀ {xs : List V} {ws : List (Nat × Nat)}, WsAt H xs ws → xs.length = ws.length
  | _, _, .nil => rfl
  | _, _, .cons _ h => congrArg (· + 1) h.len
theorem WsAt.atV {H : Hp} : ∀ {xs : List V} {ws : List (Nat × Nat)}, WsAt H xs ws → ∀ {i : Nat} {v : V}, xs[i]? = some v → ∃ (w : Nat × Nat) (b : Addr), ws[i]? = some w ∧ v = .ref b ∧ H b = some (.tup [.int w.1, .int w.2])
  | _, _, .nil, i, v, h => by cases i <;> cases h
  | _, _, .cons e h, i, v, hv => by
    cases i with
    | zero => cases hv; exact ⟨_, _, rfl, rfl, e⟩
    | succ i => exact h.atV hv
theorem WsAt.append {H : Hp} : ∀ {xs ys : List V} {ws vs : List (Nat × Nat)}, WsAt H xs ws → WsAt H ys vs → WsAt H (xs ++ ys) (ws ++ vs)
  | _, _, _, _, .nil, g => g
  | _, _, _, _, .cons e h, g => .cons e (h.append g)
end Ln

set_option Elab.async false
set_option linter.all false
set_option maxRecDepth 100000
set_option maxHeartbeats 2000000
/-! comprehensions over a text; dicts whose keys are texts -/
namespace Ls
open PySem PySem.Spec PyProof.Rows L2 Rd Dt
section
variable {K : PySem.W.Frag} {H : Hp} {σ : L2.St} {Q : VK} {g : TG} {tt : TT} {te ta : TE} {vs : List Nat}
theorem tLc_str : tLc (iStr ta) g tt te vs σ H Q = ta σ H fun v H1 => ∃ x, v = .str x ∧ tLc (fun _ H R => R (Its x) H) g tt te vs σ H1 Q := rfl
theorem lc_s {z : Str} (Pv : Addr → Nat → Hp → Prop) (h : ∀ D, H D = none → Pv D 0 (upd H D (.lst [])) ∧ (∀ i c H', z.cps.toList[i]? = some c → Pv D i H' → Lturn g tt te vs σ D (.str ⟨#[c]⟩) H' (Pv D (i + 1))) ∧ (∀ H', Pv D z.cps.toList.length H' → Q (.ref D) H')) :
    tLc (fun _ H R => R (Its z) H) g tt te vs σ H Q := fun D hD => lc_it walk_str (Pv D) (h D hD).1 (fun _ _ _ _ => trivial) (fun i x H H' hi hp hy => by
      obtain ⟨e, c, hc, hx⟩ := hy
      subst e hx
      exact (h D hD).2.1 i c _ (by rw [Array.getElem?_toList]; exact hc) hp) (by
      have := (h D hD).2.2
      rwa [Array.length_toList] at this)
theorem sDPut_ {td ty tv : TE} {D : Ends} : sDPut td ty tv D σ H = tv σ H fun v H1 => td σ H1 fun x H2 => ty σ H2 fun y H3 => ∃ a H4, x = .ref a ∧ DPut H3 a y v H4 ∧ D.nx σ H4 := rfl
end
/-- x in a list, within a comprehension -/
theorem op_in_seqK {X : Cx} {K : PySem.W.Frag} (hK : X.K = K) : OpR X (compareOp .In) (rIn K false) := by
  subst hK
  exact op_in_seq
/-- a dict whose keys are these texts -/
def DS (H : Hp) (p : Addr) (ks : List Str) : Prop := ∃ kvs : List (Key × V), H p = some (.dK kvs) ∧ kvs.map (·.1) = ks.map Sum.inr
theorem putK_keys {kvs : List (Key × V)} {ks : List Str} (h : kvs.map (·.1) = ks.map Sum.inr) (c : Str) (v : V) : (putK kvs (Sum.inr c) v).map (·.1) = (if c ∈ ks then ks else ks ++ [c]).map Sum.inr := by
  have ha : (kvs.any fun kv => decide (kv.1 = Sum.inr c)) = decide (c ∈ ks) := by
    have e1 : (kvs.any fun kv => decide (kv.1 = Sum.inr c)) = ((kvs.map (·.1)).any fun k => decide (k = Sum.inr c)) := by
      rw [List.any_map]; rfl
    rw [e1, h, List.any_map]
    rw [Bool.eq_iff_iff, List.any_eq_true, decide_eq_true_eq]
    constructor
    · rintro ⟨x, hx, e⟩
      have : (Sum.inr x : Key) = Sum.inr c := of_decide_eq_true e
      injection this with this
      rw [← this]; exact hx
    · exact fun hx => ⟨c, hx, decide_eq_true rfl⟩
  unfold putK
  rw [ha]
  by_cases hc : c ∈ ks
  · rw [if_pos (decide_eq_true hc), if_pos hc, ← h, List.map_map]
    refine List.map_congr_left fun kv _ => ?_
    show (if kv.1 = Sum.inr c then (kv.1, v) else kv).1 = kv.1
    split <;> rfl
  · rw [if_neg (by rw [decide_eq_false hc]; decide), if_neg hc, List.map_append, h, List.map_append]
    rfl
theorem DS.put {H : Hp} {p : Addr} {ks : List Str} (h : DS H p ks) (hl : ks.length < sizeLine) (c : Str) (v : V) : ∃ H', DPut H p (.str c) v H' ∧ DS H' p (if c ∈ ks then ks else ks ++ [c]) ∧ ∃ o, H' = upd H p o := by
  obtain ⟨kvs, e, hk⟩ := h
  refine ⟨_, DPut.k (k := Sum.inr c) (v := v) e ?_, ⟨_, upd_same, putK_keys hk c v⟩, _, rfl⟩
  have := congrArg List.length hk
  rw [List.length_map, List.length_map] at this
  omega
end Ls

set_option Elab.async false
set_option linter.all false
set_option maxRecDepth 100000
set_option maxHeartbeats 2000000
/-! repr of a list of data; f(k = v, ..) within a try -/
namespace Rl
open PySem PySem.Spec PyProof.Rows L2 Rd Dt Dq
def rReprL (K : PySem.W.Frag) : List V → Hp → VK → Prop := fun vs H Q => ∃ (a : Addr) (xs : List V) (ds : List PyData), vs = [.ref a] ∧ H a = some (.lst xs) ∧ DqAll K H xs ds ∧ PyData.depthAll ds ≤ 49 ∧ wtAll ds ≤ 1000000 ∧ Q (.str (PyData.list ds).shown) H
theorem rReprL_ {K : PySem.W.Frag} {vs : List V} {H : Hp} {Q : VK} : rReprL K vs H Q = ∃ (a : Addr) (xs : List V) (ds : List PyData), vs = [.ref a] ∧ H a = some (.lst xs) ∧ DqAll K H xs ds ∧ PyData.depthAll ds ≤ 49 ∧ wtAll ds ≤ 1000000 ∧ Q (.str (PyData.list ds).shown) H := rfl
theorem call_reprL {X : Cx} {K : PySem.W.Frag} (hK : X.K = K) (S : SysD K) (hG : X.A.guards = some []) (hu : X.A.units + 64 < cLine) : CallR X (.builtin "repr") (rReprL K) := by
  subst hK
  intro pins s σ H xs us Q I rv h
  obtain ⟨a, ys, ds, rfl, ha, hD, hdp, hw, q⟩ := h
  obtain ⟨h1, h2, h3⟩ := DqAll.size ds _ hD
  have hs : (PyData.list ds).showable = true := by rw [PyData.showable, h1]
  have hz' : (PyData.list ds).shown.length ≤ 3 + wtAll ds := by
    rw [PyData.shown]
    have := listText_len_le (PyData.shownAll ds)
    omega
  have hz : (PyData.list ds).shown.length ≤ sizeLine := Nat.le_trans hz' (Nat.le_trans (show 3 + wtAll ds ≤ 1000003 by omega) (by rw [sizeLine_eq]; decide))
  have hd : (PyData.list ds).depth ≤ 50 := by rw [PyData.depth]; omega
  cases rv with
  | cons rx rn =>
    cases rn
    cases rx
    obtain ⟨its, rv, ⟨o, n, ho, hc, _, hd'⟩, _⟩ := I.list (SqL.of ha)
    obtain ⟨as, hr, hn⟩ := DqAll.reads S I ds _ its hD rv
    have nm : sysModules ∉ a :: as := fun z => by
      rcases List.mem_cons.mp z with z | z
      · obtain ⟨o', k1, k2⟩ := S
        have e := I.kIn _ _ k1
        rw [z, ho] at e
        cases e
        exact absurd (Value.type.inj (hc.symm.trans k2)) (by decide)
      · exact hn z
    exact repr_of_reads' (Reads.list ho hc hd' hr) hs (fun _ => nm) hG (by omega) (fun _ _ z => z) (fun h' u tk hk => ⟨.str _, H, I.kept (t' := tk) hk, ⟨u, rfl⟩, q⟩) hz
def tCallKS (sp : Sp) (gV : List V → List V) (m : Nat) (E : L2.St → XK) (tk : TA) : TE := fun σ H Q => tk σ H fun zs H1 => zs.length = m ∧ sp (gV zs) H1 Q (E σ)
theorem tCallKS_ {sp : Sp} {gV : List V → List V} {m : Nat} {E : L2.St → XK} {tk : TA} {σ : L2.St} {H : Hp} {Q : VK} : tCallKS sp gV m E tk σ H Q = tk σ H fun zs H1 => zs.length = m ∧ sp (gV zs) H1 Q (E σ) := rfl
section
variable {X : Cx} {CX : CXT} {k : Nat} {f : Addr} {fd : FuncData} {ps ks : List Str} {sp : Sp} {E : L2.St → XK} {x : Str} {p pos : Pos} {kws : List Keyword} {tk : TA} {g : List Value → List Value} {gV : List V → List V}
theorem pe_callKwS (F : FnOk X.prog X.w X.K X.mg X.base CX k f fd ps sp) (hr : Room k X.A) (hg : Gl X x) (hm : X.mg x = some (.ref f)) (hk : PySem.W.keepIn X.K (.ref f) = true)
    (hb : KBn X.K fd ps 0 ks (fun _ ws => g ws) (fun _ zs => gV zs)) (hx : ∀ σ, PassesAt CX X σ (E σ)) (hkw : PK X kws tk)
    (hall : (backToKw pos (keywordEach kws X.env)).all (·.1.isSome) = true := by rfl) (hks : (backToKw pos (keywordEach kws X.env)).filterMap (·.1) = ks := by rfl)
    (hdb : (x == ("__debug__" : Str)) = false := by decide)
    (hpl : ((backTo pos (starEach [] X.env)).any (·.1) || (backToKw pos (keywordEach kws X.env)).any (·.1.isNone)) = false := by rfl) :
    PE X (.Call (.Name x p) [] kws pos) (tCallKS sp gV ks.length E tk) := by
  constructor
  intro pins s σ H Q I h
  refine wpAny_Call_Name_kw (ld_glob I hg hm ?_ hdb)
  refine PySem.W.callWith_KW0 (h₀ := X.base) I.ok.mod.kin hk hall ?_ hpl
  refine thn (hkw.run pos pins s σ H _ I h) ?_
  rintro ws s2 ⟨zs, H2, I2, rz, l2, q2⟩
  refine ⟨I2.kIn, ?_⟩
  rw [hks]
  have r2 := hb.rel (.nil : Vals [] []) rz
  refine wpAny_call (codeAny_mono (F.run X.A X.stack s2 H2 ⟨[], ks.zip ws⟩ (g ws) (gV zs) Q (E σ) hr I2.env0 (hb.to s2 [] ws I2.kIn rfl (rz.length.symm.trans l2)) r2 q2) fun r s' hq => ?_)
  cases r with
  | error e => exact hx σ pins H2 s2 e s' I2 hq
  | ok fl =>
    cases fl with
    | ret u => exact I2.after hq
    | next => exact False.elim hq
    | brk => exact False.elim hq
    | cont => exact False.elim hq
end
end Rl

set_option Elab.async false
set_option linter.all false
set_option maxRecDepth 100000
set_option maxHeartbeats 2000000
/-! texts of sets, read again -/
namespace Ln
open PySem PySem.Spec PyProof.Rows L2 Rd Dt TL
def nl (n : Nat) : Nat := if n < 10 then 1 else if n < 100 then 2 else if n < 1000 then 3 else 4
def okNum (n : Nat) : Bool :=
  decide ((numT n).length = nl n) && (decide (intText? (numT n) = some (n : Int)) && ((numT n).cps.toList.all (fun c => decide (48 ≤ c) && decide (c ≤ 57)) && (decide ((numT n).length = 1) || !decide ((numT n).cps.toList[0]? = some 48))))
theorem okNum_all : (List.range 1001).all okNum = true := by decide +kernel
theorem okNum_at {n : Nat} (h : n ≤ 1000) : okNum n = true := List.all_eq_true.mp okNum_all n (List.mem_range.mpr (by omega))
theorem numT_at {n : Nat} (h : n ≤ 1000) : (numT n).length = nl n ∧ intText? (numT n) = some (n : Int) ∧ (∀ c ∈ (numT n).cps.toList, 48 ≤ c ∧ c ≤ 57) ∧ ((numT n).length = 1 ∨ (numT n).cps.toList[0]? ≠ some 48) := by
  have := okNum_at h
  unfold okNum at this
  rw [Bool.and_eq_true, Bool.and_eq_true, Bool.and_eq_true, decide_eq_true_eq, decide_eq_true_eq, List.all_eq_true] at this
  obtain ⟨h1, h2, h3, h4⟩ := this
  refine ⟨h1, h2, fun c hc => ?_, ?_⟩
  · have := h3 c hc
    rw [Bool.and_eq_true, decide_eq_true_eq, decide_eq_true_eq] at this
    exact this
  · rw [Bool.or_eq_true, decide_eq_true_eq, Bool.not_eq_true', decide_eq_false_iff_not] at h4
    exact h4
theorem nl_mono {n m : Nat} (h : n ≤ m) : nl n ≤ nl m := by
  unfold nl
  split <;> split <;> (try split) <;> (try split) <;> (try split) <;> (try split) <;> omega
theorem nl_pos (n : Nat) : 1 ≤ nl n ∧ nl n ≤ 4 := by
  unfold nl
  split <;> (try split) <;> (try split) <;> omega
def rowW (w : Nat × Nat) : List Str := if w.2 = 0 then [numT w.1] else if w.2 = 1 then [numT w.1, ""] else [numT w.1, numT w.2]
theorem tl_plus : tl "+" = 43 :: [] := by decide +kernel
theorem tl_spc : tl " " = 32 :: [] := by decide +kernel
theorem rowW_no {w : Nat × Nat} (h1 : w.1 ≤ 1000) (h2 : w.2 ≤ 1000) : ∀ p ∈ rowW w, 43 ∉ tl p := by
  have a1 : 43 ∉ tl (numT w.1) := fun z => by have := (numT_at h1).2.2.1 43 z; omega
  have a2 : 43 ∉ tl (numT w.2) := fun z => by have := (numT_at h2).2.2.1 43 z; omega
  have a3 : 43 ∉ tl "" := by decide +kernel
  intro p hp
  unfold rowW at hp
  split at hp
  · rw [List.mem_singleton.mp hp]; exact a1
  · split at hp <;> rcases List.mem_cons.mp hp with e | hp
    · rw [e]; exact a1
    · rw [List.mem_singleton.mp hp]; exact a3
    · rw [e]; exact a1
    · rw [List.mem_singleton.mp hp]; exact a2
theorem row_join (w : Nat × Nat) : Txt.join "+" (rowW w) = wordT w := by
  rw [join_eq]
  unfold rowW wordT sufT
  split
  · show numT w.1 = numT w.1 ++ ""
    exact (Str.append_empty _).symm
  · split
    · show numT w.1 ++ "+" ++ "" = numT w.1 ++ "+"
      exact Str.append_empty _
    · show numT w.1 ++ "+" ++ numT w.2 = numT w.1 ++ ("+" ++ numT w.2)
      exact Str.append_assoc _ _ _
theorem row_split {w : Nat × Nat} (h1 : w.1 ≤ 1000) (h2 : w.2 ≤ 1000) : Txt.split (wordT w) "+" = rowW w := by
  rw [← row_join]
  exact split_join tl_plus (by decide +kernel) (by unfold rowW; split <;> (try split) <;> simp) (rowW_no h1 h2)
theorem word_no {w : Nat × Nat} (h1 : w.1 ≤ 1000) (h2 : w.2 ≤ 1000) : 32 ∉ tl (wordT w) := by
  have a1 : 32 ∉ tl (numT w.1) := fun z => by have := (numT_at h1).2.2.1 32 z; omega
  have a2 : 32 ∉ tl (numT w.2) := fun z => by have := (numT_at h2).2.2.1 32 z; omega
  have a3 : 32 ∉ tl "" := by decide +kernel
  have a4 : 32 ∉ tl "+" := by decide +kernel
  unfold wordT sufT
  rw [tl_append, List.mem_append]
  rintro (z | z)
  · exact a1 z
  · split at z
    · exact a3 z
    · split at z
      · exact a4 z
      · rw [tl_append, List.mem_append] at z
        rcases z with z | z
        · exact a4 z
        · exact a2 z
theorem set_split {ws : List (Nat × Nat)} (hw : ws ≠ []) (h : ∀ w ∈ ws, w.1 ≤ 1000 ∧ w.2 ≤ 1000) : Txt.split (setT ws) " " = ws.map wordT := by
  unfold setT
  rw [if_neg hw]
  refine split_join tl_spc (by decide +kernel) (by simpa using hw) fun p hp => ?_
  obtain ⟨w, hw', rfl⟩ := List.mem_map.mp hp
  exact word_no (h w hw').1 (h w hw').2
/-- a text of words is not 'none' -/
theorem set_none {ws : List (Nat × Nat)} (hw : ws ≠ []) (h : ∀ w ∈ ws, w.1 ≤ 1000 ∧ w.2 ≤ 1000) : setT ws ≠ "none" := fun z => by
  have e := set_split hw h
  rw [z] at e
  have e2 : Txt.split (Txt.join " " [Str.ofString "none"]) " " = [Str.ofString "none"] := split_join tl_spc (by decide +kernel) (by simp) (fun p hp => by rw [List.mem_singleton.mp hp]; decide +kernel)
  have e3 : Txt.join " " [Str.ofString "none"] = "none" := by rw [join_eq]; rfl
  rw [e3] at e2
  rw [e2] at e
  cases ws with
  | nil => exact hw rfl
  | cons w r =>
    cases r with
    | cons _ _ => simp at e
    | nil =>
      have e4 : wordT w = "none" := by
        have := List.cons.inj e
        exact this.1.symm
      have h1 := numT_at (h w (List.mem_cons_self ..)).1
      have hl := (nl_pos w.1).1
      have hc : 0 < (numT w.1).cps.toList.length := by
        have := h1.1
        show 0 < (numT w.1).cps.toList.length
        rw [Array.length_toList]
        show 0 < (numT w.1).length
        omega
      have hm : (numT w.1).cps.toList[0] ∈ tl (wordT w) := by
        unfold wordT
        rw [tl_append, List.mem_append]
        exact .inl (List.getElem_mem _)
      rw [e4] at hm
      have := h1.2.2.1 _ (List.getElem_mem hc)
      have e5 : tl "none" = [110, 111, 110, 101] := by decide +kernel
      rw [e5] at hm
      simp only [List.mem_cons, List.not_mem_nil, or_false] at hm
      omega
end Ln

set_option Elab.async false
set_option linter.all false
set_option maxRecDepth 100000
set_option maxHeartbeats 2000000
/-! math.lcm of two small numbers above 0; fields as targets of a tuple -/
namespace Lc
open PySem PySem.Spec PyProof.Rows L2 Rd Dt Dq Pk
section
variable {X : Cx}
def rLcm : List V → Hp → VK → Prop := fun vs H Q => ∃ a b : Nat, vs = [.int a, .int b] ∧ a < 65536 ∧ b < 65536 ∧ Q (.int ((Nat.lcm a b : Nat) : Int)) H
theorem lcm_lt {a b : Nat} (ha : a < 65536) (hb : b < 65536) : Nat.lcm a b < 2 ^ 32 := by
  have h1 : Nat.lcm a b ≤ a * b := Nat.div_le_self _ _
  have h2 : a * b ≤ 65535 * 65535 := Nat.mul_le_mul (by omega) (by omega)
  omega
theorem cr_lcm : CallR X (.builtin "math.lcm") rLcm := by
  intro pins s σ H vs us Q I r h
  obtain ⟨a, b, rfl, ha, hb, q⟩ := h
  obtain ⟨t, u, rfl⟩ := Vals.int2 r
  refine PySem.W.mg_lcm_v (by show (a : Int).natAbs < 2 ^ 64; omega) (by show (b : Int).natAbs < 2 ^ 64; omega) (c := ((Nat.lcm a b : Nat) : Int)) ?_ ?_ ⟨.int _, H, I.tok _, ⟨_, rfl⟩, q⟩
  · rw [Nat.lcm_one_left]
    rfl
  · show (Nat.lcm a b).log2 < bitsLine
    have := lcm_lt ha hb
    by_cases c : Nat.lcm a b = 0
    · rw [c]; decide
    · have := (Nat.log2_lt c).mpr this
      have e : bitsLine = 134217728 := by decide
      omega
/-- e.f, a target -/
def gFld (K : PySem.W.Frag) (ta : TE) (f : Str) : TG := fun v σ H Q => ta σ H fun x H1 => ∃ a C dx fs, x = .ref a ∧ Ob.SA K H1 a f C dx fs ∧ Q σ (upd H1 a (.ins C dx (putF f v fs)))
theorem pg_fld {o : Expr} {f : Str} {pos : Pos} {ta : TE} (ha : PE X o ta) : PG X (.Attribute o f pos) (gFld X.K ta f) := by
  refine ⟨fun pins s σ H v u Q I r h => ?_⟩
  rw [arm_assign_Attribute]
  refine wpAny_bind (wpAny_holding (thn (ha.run pins s σ H _ I h) fun ov s1 ⟨x, H1, I1, rx, a, C, dx, fs, ex, ⟨ea, c, n, l⟩, q⟩ => ?_))
  subst ex
  obtain rfl : ov = Value.ref a := rx
  refine wpAny_bind (wpAny_standAt (wpAny_bind (wpAny_holding (setattr_ok I1 ea c n l r fun s2 I2 => ?_))))
  exact wpAny_release ⟨σ, _, I2, q⟩
end

theorem _root_.L2.Room.units65 {k : Nat} {A : Around} (r : Room k A) : A.units + 65 < cLine := by have := r.un; omega
theorem op_inDK {X : Cx} {K : PySem.W.Frag} (hK : X.K = K) (hu : X.A.units + 65 < cLine) : OpR X (compareOp .In) (rInD K) := by
  subst hK
  exact op_inD hu
theorem rInD_ {K : PySem.W.Frag} {x y : V} {H : Hp} {Q : VK} : rInD K x y H Q = ∃ d ds, Dp K H x d ∧ Dp K H y (.list ds) ∧ SeqAt.shaped d = true ∧ SeqAt.shaped (.list ds) = true ∧ Q (.bl (ds.any fun z => PyData.eqv z d)) H := rfl
end Lc

set_option Elab.async false
set_option linter.all false
set_option maxRecDepth 100000
set_option maxHeartbeats 4000000
namespace K39S
open PySem PySem.Spec PyProof.Rows L2 Rd Dt Dq Pk Ln
local macro_rules | `(tactic| walk_at "rd") => `(tactic| try simp only [↓Rg.tFor_range3, ↓Rg.tLc_range3, ↓Rg.tLstC_, ↓Rg.tLc_rngV, ↓Le.rNeLE_, ↓Le.rEqLE_, ↓Ls.tLc_str, ↓Ls.sDPut_, ↓Rl.rReprL_, ↓Rl.tCallKS_, ↓Ob.tFld_, ↓Ob.sFld_, ↓tVar_, ↓tC_, ↓tM1, ↓tDNewK_, ↓tOp_, ↓tUn_, ↓rI_, ↓rI0_, ↓rU_, ↓eq_ii, ↓ne_ii, ↓eq_ss, ↓ne_ss, ↓eq_bb, ↓ne_bb, ↓tAndV_, ↓tOrV_, ↓tNotV_, ↓tIf_, ↓tTest_, ↓tB_, ↓tAnd_, ↓tOr_, ↓tNot_, ↓tChain_, ↓tNil_, ↓tCons_, ↓tTup_, ↓tLst_, ↓tCB_, ↓tCall_, ↓tSeq_, ↓tNext_, ↓tRet_, ↓tRetN_, ↓tDrop_, ↓tBreak_, ↓tNever_, ↓tIfS_, ↓tAsg_, ↓gName_, ↓gTup_, ↓gCons_, ↓gNil_, ↓gSub_, ↓tPar_, ↓tPar3_, ↓tSl_, ↓tNoPart_, ↓tPart_, ↓tBM_, ↓tFor_range1, ↓tFor_range2, ↓tFor_list, ↓tFor_tup, L2.start, List.headD_cons, List.headD_nil, List.tail_cons, List.map_cons, List.map_nil, List.length_cons, List.length_nil, List.replicate, List.append_nil, List.nil_append, List.cons_append, List.getElem?_cons_zero, List.getElem?_cons_succ, List.set_cons_zero, List.set_cons_succ, Option.some.injEq, V.int.injEq, V.bl.injEq, V.str.injEq, V.ref.injEq, exists_eq_left, exists_eq_left', exists_eq_right, exists_eq, exists_and_left, and_true, true_and, decide_eq_true_eq, Nat.reduceAdd, Nat.reduceSub, Nat.add_zero, Nat.zero_add, List.cons.injEq, Bool.not_eq_true', decide_eq_false_iff_not, eq_self, reduceCtorEq, Bool.false_eq_true, if_true, if_false, ite_true, ite_false, and_self, ↓tLc_range1, ↓tLc_range2, ↓tLc_list, ↓tLc_tup, ↓tYes_, wipe0, wipe1, ↓tCallS_, ↓rIxL_, ↓rIxT_, ↓rSlL_, ↓rCat_, ↓rSetL_, ↓rRep_, ↓rGcd_, ↓tCallK_, ↓gUnl_, ↓tRaise_, decide_true, decide_false, not_true_eq_false, not_false_eq_true, false_and, or_false, false_or, and_false, and_assoc, exists_const, forall_const, forall_eq'])

section
variable {P : Program} {w : World} {K : PySem.W.Frag} {mg : Str → Option Value} {base : Heap}
theorem lg {n : Nat} (h : n < 2 ^ 20) : (n : Int).natAbs.log2 < 1920 := by
  rw [Int.natAbs_natCast]
  by_cases z : n = 0
  · rw [z, Nat.log2_zero]; decide
  · have := (Nat.log2_lt z).mpr h
    omega
theorem lines {s : Str} {n : Nat} (h : s.length ≤ n) (e : n ≤ 1000000) : s.length ≤ sizeLine := Nat.le_trans h (Nat.le_trans e (by rw [sizeLine_eq]; decide))
/-! ### number_in, row_in, rows_in -/
theorem fig_has {c : Nat} (h1 : 48 ≤ c) (h2 : c ≤ 57) : c ∈ fig.cps.toList := by
  have e : fig.cps.toList = [48, 49, 50, 51, 52, 53, 54, 55, 56, 57] := by decide +kernel
  rw [e]
  simp only [List.mem_cons, List.not_mem_nil, or_false]
  omega
theorem fig_dec {c : Nat} (h1 : 48 ≤ c) (h2 : c ≤ 57) : decide (c ∈ fig.cps.toList) = true := decide_eq_true (fig_has h1 h2)
theorem numT_ne {n : Nat} (h : n ≤ 1000) : ¬ numT n = "" := fun z => by
  have h1 := (numT_at h).1
  have h2 := nl_pos n
  rw [z] at h1
  have e : (Str.ofString "").length = 0 := by decide
  omega
def niP (H : Hp) (D : Addr) (j : Nat) (H' : Hp) : Prop := Same H H' ∧ H' D = some (.lst [])
def spNumIn : Sp := fun vs H Q _ => ∃ n h : Nat, vs = [.str (numT n), .int h] ∧ n ≤ h ∧ h ≤ 1000 ∧ ∀ H', Same H H' → Q (.int n) H'
end
end K39S

set_option Elab.async false
set_option linter.all false
set_option maxRecDepth 100000
set_option maxHeartbeats 2000000
/-! a head's hook that looks at the modules' table too -/
namespace Sm
open PySem PySem.Spec PyProof.Rows L2
open He in
def obsS (n : Nat) (fa : List Fa) (fn : List DefD) (ex : PySem.W.Frag → Bool) (g : Addr → Option Obj) : Ga.AlM := (obsD fa fn (frG g (sysModules :: asD g n)), ex (frG g (sysModules :: asD g n)))
open He in
def hookS (n : Nat) (fa : List Fa) (fn : List DefD) (ex : PySem.W.Frag → Bool) : PySem.W.Hook where
  α := Ga.AlM
  obs := fun s => obsS n fa fn ex s.heap.get?
  val := fun _ => (valD fn, true)
  says := fun _ h => ∃ K : PySem.W.Frag, K.In h ∧ SaysD fa fn K ∧ ex K = true
  of := fun _ _ e => ⟨_, frG_in, congrArg Prod.fst e, congrArg Prod.snd e⟩
  keeps := fun _ _ _ ⟨K, hK, c⟩ k => ⟨K, PySem.W.Frag.In.keeps hK k, c⟩
open He in
theorem obsS_eq {n : Nat} {fa : List Fa} {fn : List DefD} {ex : PySem.W.Frag → Bool} {g : Addr → Option Obj} {s : Shared} (h : ∀ a, g a = s.heap.get? a) : obsS n fa fn ex g = (hookS n fa fn ex).obs s := by
  obtain rfl : g = s.heap.get? := funext h
  rfl
def sysB (K : PySem.W.Frag) : Bool := match K.lookup sysModules with
  | some o => decide (o.cls = .type "dict")
  | none => false
theorem sysB_ok {K : PySem.W.Frag} (h : sysB K = true) : Dq.SysD K := by
  unfold sysB at h
  split at h
  · rename_i o e
    exact ⟨o, e, of_decide_eq_true h⟩
  · cases h
end Sm

set_option Elab.async false
set_option linter.all false
set_option maxRecDepth 100000
set_option maxHeartbeats 2000000
/-! properties: read as e.f; what a head tells of them -/
namespace Prp
open PySem PySem.Spec PyProof.Rows L2 Rd Dt Dq Pk
/-- a property as its readers know it -/
structure PrC (P : Program) (w : World) (K : PySem.W.Frag) (mg : Str → Option Value) (base : Heap) (k : Nat) (C : Addr) (f : Str) (sp : Sp) (p g : Addr) (fd : FuncData) : Prop where
  pr : PropOf K C f p g
  bn : Binds K fd ["self"] []
  ok : FnOk P w K mg base CX0 k g fd ["self"] sp
theorem PrC.up {P : Program} {w : World} {K : PySem.W.Frag} {mg : Str → Option Value} {base : Heap} {k : Nat} {C : Addr} {f : Str} {sp : Sp} {p g : Addr} {fd : FuncData} (c : PrC P w K mg base k C f sp p g fd) {m : Nat} (h : k ≤ m) : PrC P w K mg base m C f sp p g fd := ⟨c.pr, c.bn, c.ok.mono h⟩
section
variable {σ : L2.St} {H : Hp} {Q : VK} {ta : TE} {C : Addr} {sp : Sp} {E : XK} {dvs : List V}
theorem tProp_ : tProp C sp dvs E ta σ H Q = ta σ H fun x H1 => ∃ a dx fs, x = .ref a ∧ H1 a = some (.ins C dx fs) ∧ sp (.ref a :: dvs) H1 Q E := rfl
end
theorem pe_propK {X : Cx} {K : PySem.W.Frag} {mg : Str → Option Value} {base : Heap} {P : Program} {w : World} {k : Nat} {C p g : Addr} {f : Str} {fd : FuncData} {sp : Sp} {e : Expr} {pos : Pos} {ta : TE} {E : XK}
    (h1 : X.prog = P) (h2 : X.w = w) (h3 : X.K = K) (h4 : X.mg = mg) (h5 : X.base = base) (he : PE X e ta) (c : Cls K C) (F : PrC P w K mg base k C f sp p g fd) (hr : Room (k + 1) X.A) (hx : Passes CX0 X.nox E)
    (hab : attributeBase e f X.env (eval e X.env) = eval e X.env) : PE X (.Attribute e f pos) (tProp C sp [] E ta) := by
  subst h1 h2 h3 h4 h5
  exact pe_prop he c F.pr F.ok hr F.bn .nil hx hab
/-! ### the head -/
structure PrD where
  cls : Str
  d : He.DefD
def prA (K : PySem.W.Frag) (p : PrD) : Addr := He.ma K (He.ga K p.cls) p.d.name
def geA (K : PySem.W.Frag) (p : PrD) : Addr := match PySem.W.recIn K (prA K p) "property" with
  | some (.ref g :: _) => g
  | _ => 0
/-- a head's fragment seen so that the getter stands under the class's name -/
def seen (K : PySem.W.Frag) (a : Addr) : He.FnW := match K.lookup a with
  | none => none
  | some o => (match o.data with
    | .func fd => some (fd.name, fd.qualname, fd.params, fd.body, fd.scope, fd.globals, fd.closure, fd.builtins)
    | _ => none)
def bare (K : PySem.W.Frag) (a : Addr) (q : Str) : Bool := match K.lookup a with
  | none => false
  | some o => (match o.data with
    | .func fd => PySem.W.keepIn K (.ref a) && (PySem.W.codeIn K fd.code q && (He.dflB K fd.defaults [] && He.kwdB K fd.kwdefaults []))
    | _ => false)
theorem funA {K : PySem.W.Frag} {a : Addr} {d : He.DefD} (e : seen K a = d.val) (c : bare K a d.qual = true) : ∃ fd, FunD K d.name d.qual d.params d.body d.scope [] [] a fd := by
  unfold seen at e
  unfold bare at c
  rcases hq : K.lookup a with _ | ⟨oc, od, dt, sl⟩
  · rw [hq] at c
    exact Bool.noConfusion c
  · rw [hq] at e c
    dsimp only at e c
    cases dt with
    | func fd =>
      dsimp only at e c
      rw [Bool.and_eq_true, Bool.and_eq_true, Bool.and_eq_true] at c
      obtain ⟨c1, c2, c3, c4⟩ := c
      obtain ⟨a1, a2, a3, a4, a5, a6, a7, a8, a9, b1, b2, b3, b4, b5, b6⟩ := fd
      unfold He.DefD.val at e
      dsimp only at e
      injection e with e
      rw [Prod.mk.injEq, Prod.mk.injEq, Prod.mk.injEq, Prod.mk.injEq, Prod.mk.injEq, Prod.mk.injEq, Prod.mk.injEq] at e
      obtain ⟨rfl, rfl, rfl, rfl, rfl, rfl, rfl, rfl⟩ := e
      exact ⟨_, ⟨oc, od, _, _, _, _, _, _, _, sl, rfl, hq, c2, He.dflB_ok c3, He.kwdB_ok c4⟩, c1⟩
    | _ => exact Bool.noConfusion c
def propB (K : PySem.W.Frag) (p : PrD) : Bool :=
  (decide (PySem.W.findIn K (.ref (He.ga K p.cls)) p.d.name = some (some (.ref (prA K p)))) && decide (PySem.W.specialIn K (.ref (prA K p)) "__get__" = some (some (.builtin "property.__get__")))) &&
  ((decide (PySem.W.takesIn K (.ref (prA K p)) = some true) && (match PySem.W.recIn K (prA K p) "property" with
    | some (.ref _ :: _) => true
    | _ => false)) && bare K (geA K p) p.d.qual)
theorem propB_ok {K : PySem.W.Frag} {p : PrD} (h : propB K p = true) (e : seen K (geA K p) = p.d.val) : PropOf K (He.ga K p.cls) p.d.name (prA K p) (geA K p) ∧ ∃ fd, FunD K p.d.name p.d.qual p.d.params p.d.body p.d.scope [] [] (geA K p) fd := by
  unfold propB at h
  rw [Bool.and_eq_true, Bool.and_eq_true, Bool.and_eq_true, Bool.and_eq_true] at h
  obtain ⟨⟨h1, h2⟩, ⟨h3, h4⟩, h5⟩ := h
  refine ⟨⟨of_decide_eq_true h1, of_decide_eq_true h2, of_decide_eq_true h3, ?_⟩, funA e h5⟩
  unfold geA
  split at h4
  · rename_i g rest hg
    rw [hg]
    exact ⟨rest, rfl⟩
  · exact Bool.noConfusion h4
abbrev AlP : Type := Ga.AlM × (Bool × List He.FnW)
open He in
def frS (g : Addr → Option Obj) (n : Nat) : PySem.W.Frag := frG g (sysModules :: asD g n)
open He in
def obsPK (fa : List Fa) (fn : List DefD) (ps : List PrD) (ex : PySem.W.Frag → Bool) (K : PySem.W.Frag) : AlP := ((obsD fa fn K, ex K), (ps.all (propB K), ps.map fun p => seen K (geA K p)))
open He in
def valP (fn : List DefD) (ps : List PrD) : AlP := ((valD fn, true), (true, ps.map fun p => p.d.val))
open He in
def obsP (n : Nat) (fa : List Fa) (fn : List DefD) (ps : List PrD) (ex : PySem.W.Frag → Bool) (g : Addr → Option Obj) : AlP := obsPK fa fn ps ex (frS g n)
def SaysP (ps : List PrD) (K : PySem.W.Frag) : Prop := ps.all (propB K) = true ∧ (ps.map fun p => seen K (geA K p)) = ps.map fun p => p.d.val
theorem SaysP.at {ps : List PrD} {K : PySem.W.Frag} (c : SaysP ps K) (i : Nat) {p : PrD} (h : ps[i]? = some p := by rfl) : PropOf K (He.ga K p.cls) p.d.name (prA K p) (geA K p) ∧ ∃ fd, FunD K p.d.name p.d.qual p.d.params p.d.body p.d.scope [] [] (geA K p) fd := by
  have m := List.mem_of_getElem? h
  refine propB_ok (List.all_eq_true.mp c.1 p m) ?_
  have e2 := congrArg (fun l : List He.FnW => l[i]?) c.2
  simp only [List.getElem?_map, h, Option.map_some] at e2
  exact Option.some.inj e2
open He in
def hookP (n : Nat) (fa : List Fa) (fn : List DefD) (ps : List PrD) (ex : PySem.W.Frag → Bool) : PySem.W.Hook where
  α := AlP
  obs := fun s => obsP n fa fn ps ex s.heap.get?
  val := fun _ => valP fn ps
  says := fun _ h => ∃ K : PySem.W.Frag, K.In h ∧ SaysD fa fn K ∧ (ex K = true ∧ SaysP ps K)
  of := fun _ _ e => ⟨_, frG_in, congrArg (fun z : AlP => z.1.1) e, congrArg (fun z : AlP => z.1.2) e, congrArg (fun z : AlP => z.2.1) e, congrArg (fun z : AlP => z.2.2) e⟩
  keeps := fun _ _ _ ⟨K, hK, c⟩ k => ⟨K, PySem.W.Frag.In.keeps hK k, c⟩
open He in
theorem obsP_eq {n : Nat} {fa : List Fa} {fn : List DefD} {ps : List PrD} {ex : PySem.W.Frag → Bool} {g : Addr → Option Obj} {s : Shared} (h : ∀ a, g a = s.heap.get? a) : obsP n fa fn ps ex g = (hookP n fa fn ps ex).obs s := by
  obtain rfl : g = s.heap.get? := funext h
  rfl
end Prp

set_option Elab.async false
set_option linter.all false
set_option maxRecDepth 100000
set_option maxHeartbeats 2000000
/-! shifts, and, or of naturals -/
namespace Bw
open PySem PySem.Spec PyProof.Rows L2 Rd Dt
section
variable {X : Cx}
def rShr : R2 := fun x y H Q => ∃ i k : Nat, x = .int i ∧ y = .int k ∧ Q (.int ((i >>> k : Nat) : Int)) H
def rShl : R2 := fun x y H Q => ∃ i k n : Nat, x = .int i ∧ y = .int k ∧ i < 2 ^ n ∧ n + k ≤ 100000 ∧ Q (.int ((i * 2 ^ k : Nat) : Int)) H
def rAnd : R2 := fun x y H Q => ∃ i k : Nat, x = .int i ∧ y = .int k ∧ Q (.int ((i &&& k : Nat) : Int)) H
def rOr : R2 := fun x y H Q => ∃ i k : Nat, x = .int i ∧ y = .int k ∧ Q (.int ((i ||| k : Nat) : Int)) H
theorem op_shr : OpR X (binaryOp .RShift) rShr := by
  rintro pins s σ H x y v u Q I rx ry ⟨i, k, rfl, rfl, q⟩
  refine L2.op_shr pins s σ H _ _ v u Q I rx ry ⟨_, _, rfl, rfl, Int.natCast_nonneg k, ?_⟩
  have e : (i : Int) / 2 ^ (k : Int).toNat = ((i >>> k : Nat) : Int) := by
    rw [Int.toNat_natCast, Nat.shiftRight_eq_div_pow]
    push_cast
    rfl
  rw [← e] at q
  exact q
theorem op_shl : OpR X (binaryOp .LShift) rShl := by
  rintro pins s σ H x y v u Q I rx ry ⟨i, k, n, rfl, rfl, hi, hn, q⟩
  refine op_shlW pins s σ H _ _ v u Q I rx ry ⟨_, _, rfl, rfl, shl_ok (n := n) (by rw [Int.natAbs_natCast]; exact hi) (by omega), ?_⟩
  have e : (i : Int) * 2 ^ (k : Int).toNat = ((i * 2 ^ k : Nat) : Int) := by
    rw [Int.toNat_natCast]
    push_cast
    rfl
  rw [← e] at q
  exact q
theorem op_and : OpR X (binaryOp .BitAnd) rAnd := by
  rintro pins s σ H x y v u Q I rx ry ⟨i, k, rfl, rfl, q⟩
  refine L2.op_and pins s σ H _ _ v u Q I rx ry ⟨_, _, rfl, rfl, ?_⟩
  have e : Builtin.bitAnd (i : Int) (k : Int) = ((i &&& k : Nat) : Int) := by
    rw [bitAnd_pp (Int.natCast_nonneg i) (Int.natCast_nonneg k), Int.toNat_natCast, Int.toNat_natCast]
  rw [← e] at q
  exact q
theorem op_or : OpR X (binaryOp .BitOr) rOr := by
  rintro pins s σ H x y v u Q I rx ry ⟨i, k, rfl, rfl, q⟩
  refine L2.op_or pins s σ H _ _ v u Q I rx ry ⟨_, _, rfl, rfl, ?_⟩
  have e : Builtin.bitOr (i : Int) (k : Int) = ((i ||| k : Nat) : Int) := by
    rw [bitOr_nn (Int.natCast_nonneg i) (Int.natCast_nonneg k), Int.toNat_natCast, Int.toNat_natCast]
  rw [← e] at q
  exact q
/-- while, the test shown for any use of its answer -/
theorem while_b2 {c : TT} {tb : TS} {D : Ends} {σ : L2.St} {H : Hp} (Pv : L2.St → Hp → Prop) (μ : L2.St → Hp → Nat) (h0 : Pv σ H)
    (hs : ∀ σ H, Pv σ H → ∀ Q : Bool → Hp → Prop, (∀ H1, tb { D with nx := fun σ' H' => Pv σ' H' ∧ μ σ' H' < μ σ H, ct := fun σ' H' => Pv σ' H' ∧ μ σ' H' < μ σ H, bk := D.nx } σ H1 → Q true H1) → (∀ H1, D.nx σ H1 → Q false H1) → c σ H Q) : tWhile c tb D σ H := by
  refine ⟨fun m σ H => m = μ σ H ∧ Pv σ H, ⟨_, rfl, h0⟩, ?_⟩
  rintro m σ H ⟨rfl, p⟩
  exact hs σ H p _ (fun H1 q => ⟨_, fun σ' H' ⟨p', l⟩ => ⟨_, l, rfl, p'⟩, q⟩) fun H1 q => q
end
/-! ### sets of bits -/
theorem bits_add {f : Nat → Bool} {B m n : Nat} (h : Ln.Bits f B m) (hn : n < m) : Ln.Bits (fun k => f k || decide (k = n)) (B ||| 1 * 2 ^ n) m := by
  rw [Nat.one_mul]
  refine ⟨Nat.or_lt_two_pow h.lt (Nat.pow_lt_pow_right (by decide) hn), fun k hk => ?_⟩
  rw [Nat.testBit_or, Nat.testBit_two_pow, h.eq k hk]
  congr 1
  exact decide_eq_decide.mpr eq_comm
theorem bits_congr {f g : Nat → Bool} {B m : Nat} (h : Ln.Bits f B m) (e : ∀ n, n < m → f n = g n) : Ln.Bits g B m := ⟨h.lt, fun n hn => by rw [h.eq n hn]; exact e n hn⟩
theorem bits_zero {m : Nat} : Ln.Bits (fun _ => false) 0 m := ⟨Nat.two_pow_pos m, fun n _ => Nat.zero_testBit n⟩
theorem bits_or {f g : Nat → Bool} {B C m : Nat} (h : Ln.Bits f B m) (k : Ln.Bits g C m) : Ln.Bits (fun n => f n || g n) (B ||| C) m := ⟨Nat.or_lt_two_pow h.lt k.lt, fun n hn => by rw [Nat.testBit_or, h.eq n hn, k.eq n hn]⟩
theorem bits_and {f g : Nat → Bool} {B C m : Nat} (h : Ln.Bits f B m) (k : Ln.Bits g C m) : Ln.Bits (fun n => f n && g n) (B &&& C) m := ⟨Nat.lt_of_le_of_lt Nat.and_le_left h.lt, fun n hn => by rw [Nat.testBit_and, h.eq n hn, k.eq n hn]⟩
theorem disj_add : ∀ (m x y : Nat), x < 2 ^ m → x &&& y = 0 → x + y = x ||| y
  | 0, x, y, h, _ => by
    have : x = 0 := by simpa using h
    rw [this, Nat.zero_add, Nat.zero_or]
  | m + 1, x, y, h, e => by
    have hx : x / 2 < 2 ^ m := by rw [Nat.pow_succ] at h; omega
    have e2 : x / 2 &&& y / 2 = 0 := by rw [← Nat.and_div_two, e]
    have ih := disj_add m (x / 2) (y / 2) hx e2
    have d : (x ||| y) / 2 = x / 2 ||| y / 2 := Nat.or_div_two
    have b0 := congrArg (fun z => z.testBit 0) e
    have c0 : (x ||| y).testBit 0 = (x.testBit 0 || y.testBit 0) := Nat.testBit_or ..
    simp only [Nat.testBit_and, Nat.testBit_zero, Nat.zero_testBit] at b0 c0
    have r1 := Nat.mod_two_eq_zero_or_one x
    have r2 := Nat.mod_two_eq_zero_or_one y
    have r3 := Nat.mod_two_eq_zero_or_one (x ||| y)
    have m3 : (x ||| y) % 2 = x % 2 + y % 2 := by
      rcases r1 with r1 | r1 <;> rcases r2 with r2 | r2 <;> rcases r3 with r3 | r3 <;> simp [r1, r2, r3] at b0 c0 ⊢
    have := Nat.div_add_mod (x ||| y) 2
    have := Nat.div_add_mod x 2
    have := Nat.div_add_mod y 2
    omega
/-- bits lacking others: B - (B & C) -/
theorem bits_sub {f g : Nat → Bool} {B C m : Nat} (h : Ln.Bits f B m) (k : Ln.Bits g C m) : Ln.Bits (fun n => f n && !g n) (B - (B &&& C)) m := by
  have hx : B - (B &&& C) = B ^^^ (B &&& C) := by
    have hd : B = (B ^^^ (B &&& C)) + (B &&& C) := by
      have e : (B ^^^ (B &&& C)) &&& (B &&& C) = 0 := by
        refine Nat.eq_of_testBit_eq fun n => ?_
        rw [Nat.testBit_and, Nat.testBit_xor, Nat.testBit_and, Nat.zero_testBit]
        cases B.testBit n <;> cases C.testBit n <;> rfl
      have e2 : (B ^^^ (B &&& C)) ||| (B &&& C) = B := by
        refine Nat.eq_of_testBit_eq fun n => ?_
        rw [Nat.testBit_or, Nat.testBit_xor, Nat.testBit_and]
        cases B.testBit n <;> cases C.testBit n <;> rfl
      have := disj_add B (B ^^^ (B &&& C)) (B &&& C) (Nat.xor_lt_two_pow Nat.lt_two_pow_self (Nat.lt_of_le_of_lt Nat.and_le_left Nat.lt_two_pow_self)) e
      omega
    omega
  rw [hx]
  refine ⟨Nat.xor_lt_two_pow h.lt (Nat.lt_of_le_of_lt Nat.and_le_left h.lt), fun n hn => ?_⟩
  rw [Nat.testBit_xor, Nat.testBit_and, h.eq n hn, k.eq n hn]
  cases f n <;> cases g n <;> rfl
end Bw

set_option Elab.async false
set_option linter.all false
set_option maxRecDepth 100000
set_option maxHeartbeats 2000000
/-! the lowest bit; isinstance of an own class; f-strings -/
namespace Lo
open PySem PySem.Spec PyProof.Rows L2 Rd Dt Dq Pk
theorem low_at {B k : Nat} (h : B.testBit k = true) (l : ∀ j, j < k → B.testBit j = false) : B - (B &&& (B - 1)) = 2 ^ k := by
  have e : B = 2 ^ (k + 1) * (B / 2 ^ (k + 1)) + 2 ^ k := by
    apply Nat.eq_of_testBit_eq
    intro i
    rw [Nat.testBit_two_pow_mul_add _ (by rw [Nat.pow_succ]; have := Nat.two_pow_pos k; omega)]
    by_cases c : i < k + 1
    · rw [if_pos c, Nat.testBit_two_pow]
      by_cases d : k = i
      · rw [← d, h, decide_eq_true rfl]
      · rw [l i (by omega), decide_eq_false d]
    · rw [if_neg c, Nat.testBit_div_two_pow]
      congr 1
      omega
  generalize B / 2 ^ (k + 1) = q at e
  have tp := Nat.two_pow_pos k
  have e1 : B - 1 = 2 ^ (k + 1) * q + (2 ^ k - 1) := by omega
  have e2 : B &&& (B - 1) = 2 ^ (k + 1) * q := by
    rw [e1]
    conv => lhs; lhs; rw [e]
    apply Nat.eq_of_testBit_eq
    intro i
    rw [Nat.testBit_and, Nat.testBit_two_pow_mul_add _ (by rw [Nat.pow_succ]; omega), Nat.testBit_two_pow_mul_add _ (by rw [Nat.pow_succ]; omega), Nat.testBit_two_pow_mul]
    by_cases c : i < k + 1
    · rw [if_pos c, if_pos c, Nat.testBit_two_pow, Nat.testBit_two_pow_sub_one, decide_eq_false (show ¬ i ≥ k + 1 by omega), Bool.false_and]
      by_cases d : k = i
      · rw [decide_eq_false (show ¬ i < k by omega), Bool.and_false]
      · rw [decide_eq_false d, Bool.false_and]
    · rw [if_neg c, if_neg c, Bool.and_self, decide_eq_true (show i ≥ k + 1 by omega), Bool.true_and]
  rw [e2]
  omega
theorem bits_pow (k : Nat) : Builtin.Int.intBits (((2 ^ k : Nat)) : Int) = k + 1 := by
  have tp := Nat.two_pow_pos k
  unfold Builtin.Int.intBits
  rw [if_neg (show ¬ ((((2 ^ k : Nat)) : Int) == 0) = true from fun z => by have := eq_of_beq z; omega), Int.natAbs_natCast, Nat.log2_two_pow]
def rLow : R2 := fun x y H Q => ∃ i : Nat, x = .int i ∧ y = .int (-(i : Int)) ∧ 0 < i ∧ Q (.int ((i - (i &&& (i - 1)) : Nat) : Int)) H
section
variable {X : Cx}
theorem op_low : OpR X (binaryOp .BitAnd) rLow := by
  rintro pins s σ H x y v u Q I rx ry ⟨i, rfl, rfl, hi, q⟩
  refine L2.op_and pins s σ H _ _ v u Q I rx ry ⟨_, _, rfl, rfl, ?_⟩
  have e : Builtin.bitAnd (i : Int) (-(i : Int)) = ((i - (i &&& (i - 1)) : Nat) : Int) := by
    unfold Builtin.bitAnd
    have en : Builtin.bitNot (-(i : Int)) = ((i - 1 : Nat) : Int) := by
      show - -(i : Int) - 1 = _
      omega
    rw [decide_eq_true (show (0 : Int) ≤ i by omega), decide_eq_false (show ¬ (0 : Int) ≤ -(i : Int) by omega), en]
    show (i : Int) - (((i : Int).toNat &&& (((i - 1 : Nat) : Int)).toNat : Nat) : Int) = _
    rw [Int.toNat_natCast, Int.toNat_natCast]
    have := @Nat.and_le_left i (i - 1)
    omega
  rw [← e] at q
  exact q
end
theorem tBits_ {to : TE} {σ : L2.St} {H : Hp} {Q : VK} : tBits to σ H Q = to σ H fun x H1 => ∃ i, x = .int i ∧ Q (.int (Builtin.Int.intBits i : Nat)) H1 := rfl
/-! f-strings -/
theorem tJs_n {acc : Str} {σ : L2.St} {H : Hp} {Q : Str → Hp → Prop} : tJs [] acc σ H Q = Q acc H := rfl
theorem tJs_c {t : TE} {ts : List TE} {acc : Str} {σ : L2.St} {H : Hp} {Q : Str → Hp → Prop} : tJs (t :: ts) acc σ H Q = t σ H fun x H1 => ∃ y : Str, x = .str y ∧ (acc ++ y).length ≤ sizeLine ∧ tJs ts (acc ++ y) σ H1 Q := rfl
theorem tFmt_ {te : TE} {σ : L2.St} {H : Hp} {Q : VK} : tFmt te σ H Q = te σ H fun x H1 => (∃ y : Str, x = .str y ∧ y.length ≤ sizeLine ∧ Q (.str y) H1) ∨ ∃ i : Int, x = .int i ∧ i.natAbs.log2 < 1920 ∧ Q (.str (toString i)) H1 := rfl
/-! ### an instance of an own class -/
structure OwnC (K : PySem.W.Frag) (C : Addr) : Prop where
  cl : Cls K C
  ha : PySem.W.findIn K (.ref C) "__class__" = some (some (.builtin "object.__class__"))
  hn : PySem.W.specialIn K (.builtin "object.__class__") "__get__" = some (some (.builtin "getset_descriptor.__get__"))
  ht : PySem.W.takesIn K (.builtin "object.__class__") = some true
  hm : PySem.W.mroIn K C (.type "object") = some true
def ownB (K : PySem.W.Frag) (x : Str) : Bool :=
  (decide (PySem.W.findIn K (.ref (He.ga K x)) "__class__" = some (some (.builtin "object.__class__"))) && decide (PySem.W.specialIn K (.builtin "object.__class__") "__get__" = some (some (.builtin "getset_descriptor.__get__")))) &&
  (decide (PySem.W.takesIn K (.builtin "object.__class__") = some true) && decide (PySem.W.mroIn K (He.ga K x) (.type "object") = some true))
theorem ownB_ok {K : PySem.W.Frag} {x : Str} (h : ownB K x = true) (c : Cls K (He.ga K x)) : OwnC K (He.ga K x) := by
  unfold ownB at h
  rw [Bool.and_eq_true, Bool.and_eq_true, Bool.and_eq_true] at h
  obtain ⟨⟨h1, h2⟩, h3, h4⟩ := h
  exact ⟨c, of_decide_eq_true h1, of_decide_eq_true h2, of_decide_eq_true h3, of_decide_eq_true h4⟩
def rOwn (C : Addr) : List V → Hp → VK → Prop := fun vs H Q => ∃ a dx fs, vs = [.ref a, .ref C] ∧ H a = some (.ins C dx fs) ∧ Q (.bl true) H
theorem rOwn_ {C : Addr} {vs : List V} {H : Hp} {Q : VK} : rOwn C vs H Q = ∃ a dx fs, vs = [.ref a, .ref C] ∧ H a = some (.ins C dx fs) ∧ Q (.bl true) H := rfl
theorem call_own {X : Cx} {K : PySem.W.Frag} {C : Addr} (hK : X.K = K) (O : OwnC K C) : CallR X (.builtin "isinstance") (rOwn C) := by
  subst hK
  intro pins s σ H vs us Q I r h
  obtain ⟨a, dx, fs, rfl, ha, q⟩ := h
  cases r with
  | cons r1 rr =>
    cases rr with
    | cons r2 rr =>
      cases rr
      cases r2
      exact isinst_ok (b := true) I r1 (.ins ha O.cl O.ha O.hn O.ht O.hm) (by unfold PySem.W.kitOne; rw [if_pos (by exact beq_self_eq_true _)]) fun tk => ⟨.bl true, H, I.tok tk, rfl, q⟩
theorem gFld_ {K : PySem.W.Frag} {ta : TE} {f : Str} {v : V} {σ : L2.St} {H : Hp} {Q : L2.St → Hp → Prop} : Lc.gFld K ta f v σ H Q = ta σ H fun x H1 => ∃ a C dx fs, x = .ref a ∧ Ob.SA K H1 a f C dx fs ∧ Q σ (upd H1 a (.ins C dx (putF f v fs))) := rfl
/-! making an instance -/
theorem tMake_ {C : Addr} {sp : Sp} {dvs : List V} {E : XK} {t : TA} {σ : L2.St} {H : Hp} {Q : VK} : tMake C sp dvs E t σ H Q = t σ H fun vs H1 => ∀ x dx, H1 x = none → H1 dx = none → dx ≠ x →
  sp (.ref x :: (vs ++ dvs)) (upd (upd H1 dx (.own x)) x (.ins C dx [])) (fun v H2 => v = .non ∧ Q (.ref x) H2) E := rfl
end Lo

set_option Elab.async false
set_option linter.all false
set_option maxRecDepth 100000
set_option maxHeartbeats 2000000
/-! == and != and in of an own class, with any answer -/
namespace Oc
open PySem PySem.Spec PyProof.Rows L2 Rd Dt Dq Pk
/-- a call of a def somewhere below the running body -/
theorem call_sub {X : Cx} {CX : CXT} {n : Nat} {A : Around} {f : Addr} {fd : FuncData} {ps : List Str} {sp : Sp} {E : XK} {pins : List (Addr × Obj)} {σ : L2.St} {H : Hp} {s : Shared} {vs : List V} {us : List Value} {Q : VK}
    (sb : L2.Sub X n A) (F : FnOk X.prog X.w X.K X.mg X.base CX n f fd ps sp) (hb : Binds X.K fd ps []) (hx : Passes CX X E) (I : Inv X pins σ H s) (rv : Vals vs us) (hsp : sp vs H Q E) :
    wpAny (model X.prog X.w) A (call (.ref f) us) (EP X pins σ Q) X.xe s := by
  have e0 : Env0 X.prog X.w X.K X.mg X.base A X.stack s H := by
    have e := I.env0
    exact ⟨by rw [sb.fr]; exact e.frames, e.mod, e.bs, e.bsz, e.funs, e.frf, e.hok, e.bare⟩
  have hl := F.len _ _ _ _ hsp
  have hlu : us.length = ps.length := rv.length.symm.trans hl
  have hbt := hb s us I.kIn (by rw [List.append_nil]; exact hlu)
  rw [List.append_nil] at hbt
  refine wpAny_call (codeAny_mono (F.run A X.stack s H ⟨us, []⟩ us vs Q E sb.room e0 hbt rv hsp) fun r s' hq => ?_)
  cases r with
  | error e => exact hx pins σ H s e s' I hq
  | ok fl =>
    cases fl with
    | ret w => exact I.after hq
    | next => exact False.elim hq
    | brk => exact False.elim hq
    | cont => exact False.elim hq
/-- the other side: an instance of the class, or a text -/
inductive Oth (K : PySem.W.Frag) (C : Addr) (H : Hp) : V → Prop
  | ins {b dy : Addr} {gs : List (Str × V)} : H b = some (.ins C dy gs) → Oth K C H (.ref b)
  | str (x : Str) : PySem.W.notFirst K C (.type "str") = true → Oth K C H (.str x)
  | int (i : Int) : PySem.W.notFirst K C (.type "int") = true → Oth K C H (.int i)
  | tup {b : Addr} {xs : List V} : PySem.W.notFirst K C (.type "tuple") = true → SqT K H b xs → Oth K C H (.ref b)
theorem Oth.looks {X : Cx} {C : Addr} {pins : List (Addr × Obj)} {σ : L2.St} {H : Hp} {s : Shared} {y : V} {u : Value} (I : Inv X pins σ H s) (o : Oth X.K C H y) (ry : RelV y u) : ∃ tb, PySem.W.Looks (model X.prog X.w) s.heap (typeOf u) tb ∧ PySem.W.notFirst X.K C tb = true := by
  cases o with
  | ins hb =>
    cases ry
    obtain ⟨m, J, _⟩ := ins_get I.hok hb
    obtain ⟨od, J, _⟩ := J.look
    exact ⟨_, J.type, by simp [PySem.W.notFirst]⟩
  | str x h =>
    obtain ⟨t, rfl⟩ := ry
    exact ⟨_, PySem.W.Looks.of_pure rfl, h⟩
  | int x h =>
    obtain ⟨t, rfl⟩ := ry
    exact ⟨_, PySem.W.Looks.of_pure rfl, h⟩
  | tup h hb =>
    cases ry
    obtain ⟨its, _, ⟨o, ho, hc, _⟩, _⟩ := I.tuple hb
    refine ⟨_, ?_, h⟩
    rw [← hc]
    exact (PySem.W.Looks.ld ho).andThen .now
structure EqK (K : PySem.W.Frag) (C f : Addr) : Prop where
  s : PySem.W.findIn K (.ref C) "__eq__" = some (some (.ref f))
  i : PySem.W.isFn K (.ref f) = true
/-- what an own __eq__ answers, used as == and as != -/
def rEqO (K : PySem.W.Frag) (C : Addr) (sp : Sp) : R2 := fun x y H Q => ∃ a dx fs, x = .ref a ∧ H a = some (.ins C dx fs) ∧ Oth K C H y ∧ sp [x, y] H (fun v H' => ∃ b, v = .bl b ∧ Q (.bl b) H') (fun _ _ _ => False)
def rNeO (K : PySem.W.Frag) (C : Addr) (sp : Sp) : R2 := fun x y H Q => ∃ a dx fs, x = .ref a ∧ H a = some (.ins C dx fs) ∧ Oth K C H y ∧ sp [x, y] H (fun v H' => ∃ b, v = .bl b ∧ Q (.bl (!b)) H') (fun _ _ _ => False)
section
variable {X : Cx} {CX : CXT} {n : Nat} {C f : Addr} {fd : FuncData} {ps : List Str} {sp : Sp}
theorem op_eqO {K : PySem.W.Frag} (hK : X.K = K) (hr : Room n X.A) (e : EqK K C f) (F : FnOk X.prog X.w X.K X.mg X.base CX n f fd ps sp) (hb : Binds X.K fd ps []) (hx : Passes CX X (fun _ _ _ => False)) : OpR X (compareOp .Eq) (rEqO K C sp) := by
  subst hK
  intro pins s σ H x y v u Q I rx ry h
  obtain ⟨a, dx, fs, rfl, ha, ho, hsp⟩ := h
  cases rx
  obtain ⟨mA, J, _⟩ := ins_get I.hok ha
  obtain ⟨od, J, _⟩ := J.look
  obtain ⟨tb, lb, nb⟩ := ho.looks I ry
  obtain ⟨m, hF⟩ := I.fr
  show wpAny _ _ (richCompare .Eq (.ref a) u) _ _ _
  refine PySem.W.cmp_K (op := .Eq) hr.units0 hF I.ok.mod.kin J lb nb e.s e.i ?_
  refine wpAny_mono (call_sub ⟨hr, rfl⟩ F hb hx I (.cons (show RelV (.ref a) (.ref a) from rfl) (.cons ry .nil)) hsp) (fun r s' z => ?_) fun _ _ z => z
  obtain ⟨w, H', I', rw', b, rfl, q⟩ := z
  cases (show r = .bool b from rw')
  exact ⟨.bl b, H', I', rfl, q⟩
/-! the != that comes of it -/
theorem ifBoundB {prog : Program} {w : World} {A : Around} {E : Value → Shared → Prop} {s : Shared} {K : PySem.W.Frag} {x C : Addr} {ox : Obj} {od : Option Obj} {name : Str} {id : String} {args : List Value} {Q : Option Value → Shared → Prop} (Z : K.In s.heap) (I : PySem.W.InstAt s.heap x ox C od) (hs : PySem.W.findIn K (.ref C) name = some (some (.builtin id)))
    (hb : ∀ self, bindSpecial (.builtin id) self = pure (.builtin id, [self])) (h : wpAny (model prog w) A (call (.builtin id) (.ref x :: args)) (fun v => Q (some v)) E s) : wpAny (model prog w) A (callSpecialIfBound? (.ref x) name args) Q E s := by
  simp only [callSpecialIfBound?, bindSpecialIfBound?]
  refine wpAny_holding (wpAny_bind (wpAny_bind (wpAny_bind (I.type.here ((PySem.W.looks_findIn Z hs).here ?_)))))
  simp only [hb]
  refine wpAny_bind (wpAny_askSetting (wpAny_ite ?_))
  have goal : wpAny (model prog w) A (call (.builtin id) ([.ref x] ++ args) >>= fun v => pure (some v)) Q E s := wpAny_bind (wpAny_mono h (fun v s' z => wpAny_pure z) fun _ _ z => z)
  split
  · exact wpAny_bind (wpAny_pure (wpAny_pure (by exact goal)))
  · exact wpAny_tryCatch (wpAny_bind (wpAny_pure (wpAny_pure (by exact goal))))
structure NeK (K : PySem.W.Frag) (C f : Addr) : Prop extends EqK K C f where
  ne : PySem.W.findIn K (.ref C) "__ne__" = some (some (.builtin "object.__ne__"))
  ob : PySem.W.mroIn K C (.type "object") = some true
theorem op_neO {K : PySem.W.Frag} (hK : X.K = K) (hr : Room (n + 1) X.A) (e : NeK K C f) (F : FnOk X.prog X.w X.K X.mg X.base CX n f fd ps sp) (hb : Binds X.K fd ps []) (hx : Passes CX X (fun _ _ _ => False)) : OpR X (compareOp .NotEq) (rNeO K C sp) := by
  subst hK
  intro pins s σ H x y v u Q I rx ry h
  obtain ⟨a, dx, fs, rfl, ha, ho, hsp⟩ := h
  cases rx
  obtain ⟨mA, J, _⟩ := ins_get I.hok ha
  obtain ⟨od, J, _⟩ := J.look
  obtain ⟨tb, lb, nb⟩ := ho.looks I ry
  have one : wpAny (model X.prog X.w) X.A (tryCompare (.ref a) "__ne__" u) (fun r s' => ∃ v, r = some v ∧ EP X pins σ Q v s') X.xe s := by
    unfold tryCompare
    refine wpAny_bind (ifBoundB I.kIn J e.ne PySem.F.cmp_object.ne.bind ?_)
    refine wpAny_call (codeAny_call_builtin PySem.F.cmp_object.ne.plain PySem.F.cmpEntry_ne (PySem.W.check_slot PySem.F.cmpKind_ne PySem.F.cmpSplit_ne (J.type.andThen (PySem.W.looks_mroIn I.kIn e.ob)) (PySem.F.cmpArgs_ne _ _) ?_))
    unfold Builtin.«object.__ne__»
    refine wpAny_bind (m := slotArgs "__ne__" 1 _) (wpAny_pure ?_)
    refine wpAny_bind (m := cRoomFor _ _) (wpAny_cRoomFor hr.in1.units0 ?_)
    refine wpAny_bind (m := callSpecialIfBound? (.ref a) (Str.ofString "__eq__") _) (PySem.W.ifBound_K I.kIn J e.s e.i (wpAny_mono (call_sub ⟨hr.in1, rfl⟩ F hb hx I (.cons (show RelV (.ref a) (.ref a) from rfl) (.cons ry .nil)) hsp) (fun r s' z => ?_) fun _ _ z => z))
    obtain ⟨w, H', I', rw', b, rfl, q⟩ := z
    cases (show r = .bool b from rw')
    refine wpAny_bind (m := truthy (.bool b)) (wpAny_truthy_bool (wpAny_pure ?_))
    exact wpAny_pure ⟨.bool (!b), rfl, .bl (!b), H', I', rfl, q⟩
  show wpAny _ _ (richCompare .NotEq (.ref a) u) _ _ _
  unfold richCompare
  simp only [oneThing_ref]
  refine wpAny_holding ?_
  refine wpAny_bind (wpAny_cRoomFor hr.units0 ?_)
  rw [cmpInfo_NotEq]
  dsimp only
  refine wpAny_bind (J.type.here ?_)
  refine wpAny_bind (lb.here ?_)
  split
  · rename_i hne
    have sf : PySem.W.subIn X.K tb (.ref C) = some false := by
      unfold PySem.W.notFirst at nb
      rcases Bool.or_eq_true_iff.mp nb with z | z
      · rw [bne_iff_ne] at hne
        exact absurd (beq_iff_eq.mp z).symm hne
      · exact beq_iff_eq.mp z
    refine wpAny_bind ((PySem.W.looks_subIn I.kIn sf).here ?_)
    rw [if_neg (by decide)]
    refine wpAny_bind (wpAny_mono one (fun r s' z => ?_) fun _ _ z => z)
    obtain ⟨z, rfl, hz⟩ := z
    exact wpAny_pure hz
  · refine wpAny_bind (wpAny_pure ?_)
    rw [if_neg (by decide)]
    refine wpAny_bind (wpAny_mono one (fun r s' z => ?_) fun _ _ z => z)
    obtain ⟨z, rfl, hz⟩ := z
    exact wpAny_pure hz
end
/-! in -/
def rInO (K : PySem.W.Frag) (C : Addr) (sp : Sp) : R2 := fun x y H Q => ∃ a dx fs, y = .ref a ∧ H a = some (.ins C dx fs) ∧ sp [y, x] H (fun v H' => ∃ b, v = .bl b ∧ Q (.bl b) H') (fun _ _ _ => False)
theorem op_inO {X : Cx} {CX : CXT} {n : Nat} {C f : Addr} {fd : FuncData} {ps : List Str} {sp : Sp} {K : PySem.W.Frag} (hK : X.K = K) (hr : Room n X.A) (hs : PySem.W.findIn K (.ref C) "__contains__" = some (some (.ref f))) (hi : PySem.W.isFn K (.ref f) = true) (F : FnOk X.prog X.w X.K X.mg X.base CX n f fd ps sp) (hb : Binds X.K fd ps []) (hx : Passes CX X (fun _ _ _ => False)) : OpR X (compareOp .In) (rInO K C sp) := by
  subst hK
  intro pins s σ H x y v u Q I rx ry h
  obtain ⟨a, dx, fs, rfl, ha, hsp⟩ := h
  cases ry
  obtain ⟨mA, J, _⟩ := ins_get I.hok ha
  obtain ⟨od, J, _⟩ := J.look
  show wpAny _ _ (contains (.ref a) v >>= fun b => pure (Value.bool b)) _ _ _
  refine wpAny_bind ?_
  unfold contains
  refine wpAny_holding ?_
  rw [stdlibNamesSay?_ref]
  refine wpAny_bind (m := specialOf (.ref a) (Str.ofString "__contains__")) (wpAny_bind (J.type.here ((PySem.W.looks_findIn I.kIn hs).here ?_)))
  dsimp only
  rw [if_neg (show ¬ ((some (Value.ref f) == some Value.none) = true) from fun z => by have := eq_of_beq z; injection this with this; cases this)]
  refine wpAny_bind ?_
  unfold callSpecialUnlessNone?
  refine wpAny_bind (m := specialOf (.ref a) (Str.ofString "__contains__")) (wpAny_bind (J.type.here ((PySem.W.looks_findIn I.kIn hs).here ?_)))
  refine wpAny_holding (wpAny_bind ((PySem.W.bind_fn I.kIn _ (beq_iff_eq.mp hi)).here ?_))
  dsimp only
  rw [if_neg (show ¬ ((Value.ref f == Value.none) = true) from fun z => by have := eq_of_beq z; cases this)]
  refine wpAny_bind (wpAny_mono (call_sub ⟨hr, rfl⟩ F hb hx I (.cons (show RelV (.ref a) (.ref a) from rfl) (.cons rx .nil)) hsp) (fun r s' z => ?_) fun _ _ z => z)
  obtain ⟨w, H', I', rw', b, rfl, q⟩ := z
  cases (show r = .bool b from rw')
  refine wpAny_pure ?_
  exact wpAny_truthy_bool (wpAny_pure ⟨.bl b, H', I', rfl, q⟩)
end Oc

set_option Elab.async false
set_option linter.all false
set_option maxRecDepth 100000
set_option maxHeartbeats 2000000
/-! xs[::-1] of a list; an instance made by keywords alone -/
namespace Rv
open PySem PySem.Spec PyProof.Rows L2 Rd Dt Dq Pk
def tRevL (K : PySem.W.Frag) (te tk : TE) : TE := fun σ H Q => te σ H fun x H1 => tk σ H1 fun y H2 => y = .int (-1) ∧ ∃ a xs, x = .ref a ∧ SqL K H2 a xs ∧ ∀ p, H2 p = none → Q (.ref p) (upd H2 p (.lst xs.reverse))
theorem tRevL_ {K : PySem.W.Frag} {te tk : TE} {σ : L2.St} {H : Hp} {Q : VK} : tRevL K te tk σ H Q = te σ H fun x H1 => tk σ H1 fun y H2 => y = .int (-1) ∧ ∃ a xs, x = .ref a ∧ SqL K H2 a xs ∧ ∀ p, H2 p = none → Q (.ref p) (upd H2 p (.lst xs.reverse)) := rfl
theorem vals_rev : ∀ {vs : List V} {us : List Value}, Vals vs us → Vals vs.reverse us.reverse
  | [], _, .nil => .nil
  | v :: vs, _, .cons h r => by
    rw [List.reverse_cons, List.reverse_cons]
    exact (vals_rev r).append (.cons h .nil)
theorem pe_rev {X : Cx} {K : PySem.W.Frag} {e k : Expr} {te tk : TE} {p2 pos : Pos} (hK : X.K = K) (he : PE X e te) (hk : PE X k tk) : PE X (.Subscript e (.Slice none none (some k) p2) pos) (tRevL K te tk) := by
  subst hK
  refine ⟨fun pins s σ H Q I h => ?_⟩
  refine Subscript_ (thn (he.run pins s σ H _ I h) fun v s1 ⟨x, H1, I1, r1, q1⟩ => ?_)
  refine wpAny_Slice ?_
  rw [evalPart_none]
  refine wpAny_pure ?_
  refine wpAny_pure ?_
  rw [evalPart_some]
  refine thn (hk.run pins s1 σ H1 _ I1 q1) fun vk s3 ⟨y, H3, I3, r3, q3⟩ => ?_
  obtain ⟨rfl, a, xs, rfl, hx, q⟩ := q3
  obtain ⟨tk', rfl⟩ := r3
  cases r1
  have I4 : Inv X pins σ H3 { s3 with heap := s3.heap.push { cls := .type "slice", data := .fields #[.none, .none, .int (-1) tk'] } } := I3.kept (t' := s3.toks) fun b ob z => Heap.get?_push_of_some _ z
  obtain ⟨its, r, ht, hz⟩ := I4.list hx
  have hlen := r.length
  show wpAny (model X.prog X.w) X.A (subscriptTail e (.Slice none none (some k) p2) (.ref a) (.ref s3.heap.objs.size)) (EP X pins σ Q) X.xe { s3 with heap := s3.heap.push { cls := .type "slice", data := .fields #[.none, .none, .int (-1) tk'] } }
  refine tail_any (ops := [.ref a, .ref s3.heap.objs.size]) ht.isList.typeIs slot_list_getitem.lookup ?_ (by with_unfolding_all rfl)
  refine wpAny_getItem_list_slice ht.isList (Heap.IsSliceOf.new ..) .none .none (.int (-1) tk') (by decide) ?_ (by rw [List.size_toArray]; omega)
  rw [PySem.W.krv_pick]
  refine ⟨.ref _, _, I4.laid (t' := s3.toks) (o := .lst xs.reverse) (fun b ob z => Heap.get?_push_of_some _ z) (Nat.le_refl _) ?_, rfl, q _ (I4.hok.fresh (Nat.le_refl _))⟩
  exact ⟨by rw [List.length_reverse]; exact hz, _, 0, vals_rev r, Heap.get?_push_size _ rfl⟩
/-- C(k = v, ..) -/
def tMakeKw (C : Addr) (m : Nat) (sp : Sp) (gV : List V → List V) (E : XK) (tk : TA) : TE := fun σ H Q => tk σ H fun zs H2 => zs.length = m ∧ ∀ x dx, H2 x = none → H2 dx = none → dx ≠ x → sp (.ref x :: gV zs) (upd (upd H2 dx (.own x)) x (.ins C dx [])) (fun v H3 => v = .non ∧ Q (.ref x) H3) E
theorem tMakeKw_ {C : Addr} {m : Nat} {sp : Sp} {gV : List V → List V} {E : XK} {tk : TA} {σ : L2.St} {H : Hp} {Q : VK} : tMakeKw C m sp gV E tk σ H Q = tk σ H fun zs H2 => zs.length = m ∧ ∀ x dx, H2 x = none → H2 dx = none → dx ≠ x → sp (.ref x :: gV zs) (upd (upd H2 dx (.own x)) x (.ins C dx [])) (fun v H3 => v = .non ∧ Q (.ref x) H3) E := rfl
section
variable {X : Cx} {CX : CXT} {k : Nat} {f C : Addr} {fd : FuncData} {ps ks : List Str} {sp : Sp} {E : XK} {x : Str} {p pos : Pos} {kws : List Keyword} {tk : TA} {g : List Value → List Value} {gV : List V → List V}
theorem pe_makeKw (M : Mk X.K C f) (F : FnOk X.prog X.w X.K X.mg X.base CX k f fd ps sp) (hr : Room (k + 1) X.A) (hg : Gl X x) (hm : X.mg x = some (.ref C)) (hb : KBn X.K fd ps 1 ks (fun us ws => us ++ g ws) (fun vs zs => vs ++ gV zs)) (hx : Passes CX X E) (hkw : PK X kws tk)
    (hall : (backToKw pos (keywordEach kws X.env)).all (·.1.isSome) = true := by rfl) (hks : (backToKw pos (keywordEach kws X.env)).filterMap (·.1) = ks := by rfl)
    (hdb : (x == ("__debug__" : Str)) = false := by decide)
    (hpl : ((backTo pos (starEach [] X.env)).any (·.1) || (backToKw pos (keywordEach kws X.env)).any (·.1.isNone)) = false := by rfl) :
    PE X (.Call (.Name x p) [] kws pos) (tMakeKw C ks.length sp gV E tk) := by
  constructor
  intro pins s σ H Q I h
  refine wpAny_Call_Name_kw (ld_glob I hg hm ?_ hdb)
  refine PySem.W.callWith_KW0 (h₀ := X.base) I.ok.mod.kin M.kp hall ?_ hpl
  refine thn (hkw.run pos pins s σ H _ I h) ?_
  rintro ws s2 ⟨zs, H2, I2, rz, l2, q2⟩
  refine ⟨I2.kIn, ?_⟩
  rw [hks]
  exact run_makeN (n := 0) (us := []) (vs := []) M F hr hb hx I2 .nil rz rfl l2 q2
end
/-- the keywords' names as given -/
theorem kbn1 {K : PySem.W.Frag} {x qual : Str} {params : Arguments} {body : List Stmt} {scope : Scope} {f : Addr} {fd : FuncData} {ps : List Str} (F : FunD K x qual params body scope [] [] f fd) (ks : List Str)
    (h : ∀ (kV doc pm : Value) (an : Option Addr) (cdv ct : Value) (u : Value) (ws : List Value), ws.length = ks.length → bindArgs (PySem.W.fnOf x qual params body scope .none kV doc pm an cdv ct) ⟨[u], ks.zip ws⟩ = pure (ps.zip (u :: ws))) :
    KBn K fd ps 1 ks (fun us ws => us ++ ws) (fun vs zs => vs ++ zs) := by
  obtain ⟨oc, od, dV, kV, doc, pm, an, cdv, ct, sl, e, lk, hcd, hD, hK⟩ := F.ex
  rcases hD with ⟨_, e2⟩ | ⟨z, _⟩
  · subst e2 e
    refine ⟨fun s us ws Z l1 l2 => ?_, fun r r' => r.append r'⟩
    obtain ⟨u, rfl⟩ : ∃ u, us = [u] := by
      match us, l1 with
      | [u], _ => exact ⟨u, rfl⟩
    exact .of_eq (h kV doc pm an cdv ct u ws l2)
  · exact absurd rfl z
end Rv

set_option Elab.async false
set_option linter.all false
set_option maxRecDepth 100000
set_option maxHeartbeats 2000000
/-! enumerate(tuple); dict(tuple of pairs) -/
namespace En
open PySem PySem.Spec PyProof.Rows L2 Rd Dt Dq Pk
/-- the tuple at a, each item in a new pair -/
def ItU (K : PySem.W.Frag) (a : Addr) : It :=
  ⟨fun i H => ∃ (xs : List V) (x : V), SqT K H a xs ∧ xs[i]? = some x, fun i H v H' => ∃ N x, v = .ref N ∧ H N = none ∧ H' = upd H N (.tup [.int (i : Nat), x]) ∧ ∀ xs, SqT K H a xs → xs[i]? = some x, fun i H => ∃ xs : List V, SqT K H a xs ∧ xs.length = i⟩
theorem turn_tupEnum {P : Program} {w : World} {K : PySem.W.Frag} {elts : List Expr} {kk : Nat} {tpos : Pos} (a e it : Addr) :
    Turn P w K (.Tuple elts kk tpos) (ItU K a) [e, it] e (fun i h => (∃ old, IsEnum h e it ((i : Nat) : Int) old) ∧ h.IsTupleIter it a i ∧ e ≠ it ∧ a ≠ it ∧ e ≠ a) where
  mem := by simp
  obj := fun i h st b hb => by
    obtain ⟨⟨old, h1⟩, ⟨o, g1, g2, g3⟩, _⟩ := st
    rcases (show b = e ∨ b = it by simpa using hb) with z | z
    · subst z; exact ⟨_, h1, fun v q => nomatch q⟩
    · subst z; exact ⟨o, g1, fun v q => by rw [g3] at q; cases q⟩
  keep := fun i h h' st k => by
    obtain ⟨⟨old, h1⟩, h2, h3⟩ := st
    exact ⟨⟨old, k e (by simp) _ h1⟩, h2.at fun o q => k it (by simp) o q, h3⟩
  item := by
    intro X hP hw hK hc i pins s σ H E I hf st hg
    subst hP hw hK
    obtain ⟨⟨old, h1⟩, h2, n1, n2, n3⟩ := st
    obtain ⟨xs, x, hq, hx⟩ := hg
    obtain ⟨us, rv, tp, hz⟩ := I.tuple hq
    obtain ⟨u, hu, ru⟩ := rv.get hx
    have lt1 : e < s.heap.objs.size := Heap.lt_size h1
    have lt2 : it < s.heap.objs.size := by
      obtain ⟨_, q, _⟩ := h2
      exact Heap.lt_size q
    have li : i < us.toArray.size := by
      have := (List.getElem?_eq_some_iff.mp hu).1
      simpa using this
    have D := Draws.tuple (prog := X.prog) (w := X.w) (A := X.A.in1) (show X.A.in1.handled = none from I.ok.hd hc) it a n2 us.toArray
    refine wpAny_pyNext_enum_itemD D h1 ⟨h2, tp⟩ li n1 (by simp [n1, n3]) fun y h' tk py ho hit' hT hsz hk => ?_
    obtain rfl : y = u := by
      have e1 : us.toArray[i]? = some y := py
      rw [List.getElem?_toArray, hu] at e1
      exact (Option.some.inj e1).symm
    refine ⟨_, rfl, wpAny_letOwnedTupleGo_enum (s := { s with heap := h', toks := tk + 1 }) ho fun h2' he' sb => ?_⟩
    have gT : h2'.get? s.heap.objs.size = some { cls := .type "tuple", data := .seq #[.int i tk, y] } := (sb.2 _ (Nat.ne_of_gt lt1)).trans hT
    have fresh := I.hok.fresh (Nat.le_refl s.heap.objs.size)
    have okn : ObjOk X.prog X.w (upd H s.heap.objs.size (.tup [.int (i : Nat), x])) h2' s.heap.objs.size (.tup [.int (i : Nat), x]) := ⟨(show 2 ≤ sizeLine by rw [sizeLine_eq]; decide), [.int i tk, y], .cons ⟨_, rfl⟩ (.cons ru .nil), ⟨_, gT, rfl, _, rfl⟩⟩
    have J : Inv X pins σ (upd H s.heap.objs.size (.tup [.int (i : Nat), x])) { s with heap := h2', toks := tk + 1 } :=
      I.turnedNew (t' := tk + 1) (ch := [e, it]) (fun b ob hb q => (sb.2 b (fun z => hb (by rw [z]; simp))).trans (hk b ob (fun z => hb (by rw [z]; simp)) (fun z => hb (by rw [z]; simp)) q)) hf (Nat.le_refl _) okn
    refine ⟨.ref s.heap.objs.size, _, J, rfl, ⟨_, x, rfl, fresh, rfl, fun ys hy => by rw [I.tuple_inj hy hq]; exact hx⟩, ⟨⟨y, by rw [show ((i + 1 : Nat) : Int) = (i : Int) + 1 by omega]; exact he'⟩, hit'.1.at fun o q => (sb.2 it (Ne.symm n1)).trans q, n1, n2, n3⟩, fun b hb => ?_⟩
    have lb : b < s.heap.objs.size := by
      rcases (show b = e ∨ b = it by simpa using hb) with z | z
      · rw [z]; exact lt1
      · rw [z]; exact lt2
    rw [upd_ne (Nat.ne_of_lt lb)]
    exact (hf b hb).1
  done := by
    intro X hP hw hK hc i pins s σ H E I hf st hg
    subst hP hw hK
    obtain ⟨⟨old, h1⟩, h2, n1, n2, n3⟩ := st
    obtain ⟨xs, hq, hx⟩ := hg
    obtain ⟨us, rv, tp, hz⟩ := I.tuple hq
    obtain ⟨f0, f1, f2, f3, f4, f5⟩ := hf it (by simp)
    have hl := rv.length
    have sz : us.toArray.size = i := by rw [List.size_toArray, ← hl, hx]
    have D := Draws.tuple (prog := X.prog) (w := X.w) (A := X.A.in1) (show X.A.in1.handled = none from I.ok.hd hc) it a n2 us.toArray
    refine wpAny_pyNext_enum_endD D h1 (by rw [sz]; exact ⟨h2, tp⟩) fun h' eb => ⟨rfl, I.turned (t' := s.toks) (fun b o hb q => eb b o hb q) f0 f1 f3 f4 f5⟩
  self := fun A i s Q E st h => by
    obtain ⟨⟨_, h1⟩, _⟩ := st
    exact wpAny_pyIter_enum h1 h
def iEnumT (K : PySem.W.Frag) (ta : TA) : TI := fun σ H R => ta σ H fun vs H1 => ∃ a xs, vs = [.ref a] ∧ SqT K H1 a xs ∧ R (ItU K a) H1
set_option maxHeartbeats 1000000 in
/-- enumerate(v) makes two objects -/
theorem made_enum {v : Value} {ob : Obj} {Hs : Heap → Prop} (B : Begins v ob Hs) :
    Meets (Builtin.«enumerate.__new__» ⟨[.type "enumerate", v], []⟩) (fun _ R s => Hs s.heap ∧
      R (.ok (.ret (.ref (s.heap.push ob).objs.size))) { s with heap := (s.heap.push ob).push { cls := .type "enumerate", data := .fields #[.none, .bool false, .ref s.heap.objs.size, rawInt 0, .none, .none] } }) :=
  .of_wp fun prog w A R s hy => by
    obtain ⟨hp, g, d, tk, os⟩ := s
    obtain ⟨y1, y2⟩ := hy
    have z0 := sub_enumerate
    have it1 : ∀ {A' : Around} {E : Value → Shared → Prop} {Q : Value → Shared → Prop}, Q (.ref hp.objs.size) ⟨hp.push ob, g, d, tk, os⟩ → wpAny (model prog w) A' (pyIter v) Q E ⟨hp, g, d, tk, os⟩ := fun q => B.iter _ _ _ _ ⟨hp, g, d, tk, os⟩ _ y1 q
    wp_walk using it1
    refine wpAny_stack_any fun st => wpAny_pure ?_
    split
    · rename_i c _ _ _ _ _
      cases (c == Value.type "enumerate") <;> (wp_walk using it1; exact ⟨_, rfl, y2⟩)
    · wp_walk using it1
      exact ⟨_, rfl, y2⟩
theorem call_enum {prog : Program} {w : World} {A : Around} {E : Value → Shared → Prop} {s : Shared} {v : Value} {ob : Obj} {Hs : Heap → Prop} {Q : Value → Shared → Prop} (B : Begins v ob Hs) (h1 : Hs s.heap)
    (k : ∀ h', IsEnum h' (s.heap.objs.size + 1) s.heap.objs.size 0 .none → h'.get? s.heap.objs.size = some ob → (∀ b o, s.heap.get? b = some o → h'.get? b = some o) → Q (.ref (s.heap.objs.size + 1)) { s with heap := h' }) :
    wpAny (model prog w) A (call (.type "enumerate") [v]) Q E s := by
  refine callType_new F.called_enumerate (by decide) (F.typeCall_enumerate_1 _) (F.newCall_enumerate_1 _) (fun obj => F.args_object_init_2 obj _) F.entry_enumerate_new (made_enum B) ⟨h1, ?_⟩
  have sz : (s.heap.push ob).objs.size = s.heap.objs.size + 1 := Heap.size_push ..
  have he := Heap.get?_push_size (s.heap.push ob) (o := { cls := .type "enumerate", data := .fields #[.none, .bool false, .ref s.heap.objs.size, rawInt 0, .none, .none] }) rfl
  rw [sz] at he
  show _ ∧ _
  rw [sz]
  exact ⟨⟨_, he, rfl⟩, k _ he (Heap.get?_push_of_some _ (Heap.get?_push_size _ B.free)) fun b o x => Heap.get?_push_of_some _ (Heap.get?_push_of_some _ x)⟩
theorem pi_enumT {X : Cx} {K : PySem.W.Frag} {e : Expr} {ta : TA} {p pos tpos : Pos} {elts : List Expr} {kk : Nat} (hK : X.K = K) (hg : Gl X "enumerate") (hm : X.mg "enumerate" = none) (ha : PA X [e] ta) (hs : starEach [e] X.env = [(false, eval e X.env)] := by rfl) :
    PI X (.Tuple elts kk tpos) (.Call (.Name "enumerate" p) [e] [] pos) (iEnumT K ta) := by
  subst hK
  refine ⟨fun pins s σ H R I h => ?_⟩
  refine Call_ (ld_blt I hg hm boot_enumerate (PyProof.Rows.callWith_type1 (thn (ha.run pos pins s σ H _ I h) fun us s1 ⟨vs, H1, I1, r1, q1⟩ => ?_) hs rfl))
  obtain ⟨a, xs, rfl, hq, q⟩ := q1
  cases r1 with
  | cons r rr =>
    cases rr
    cases r
    obtain ⟨its, rv, tp, hz⟩ := I1.tuple hq
    have la : a < s1.heap.objs.size := by
      obtain ⟨o, ho, _⟩ := tp
      exact Heap.lt_size ho
    refine call_enum (begins_tuple a its.toArray) tp fun h' he hit hk => wpAny_pyIter_enum he ?_
    have I2 : Inv X pins σ H1 { s1 with heap := h' } := I1.kept (t' := s1.toks) hk
    refine ⟨s1.heap.objs.size + 1, [s1.heap.objs.size + 1, s1.heap.objs.size], _, _, H1, rfl, I2, turn_tupEnum a (s1.heap.objs.size + 1) s1.heap.objs.size, ⟨⟨.none, he⟩, ⟨_, hit, rfl, rfl⟩, Nat.succ_ne_self _, Nat.ne_of_lt la, Nat.ne_of_gt (Nat.lt_succ_of_lt la)⟩, fun b hb => ?_, q⟩
    have hle : s1.heap.objs.size ≤ b := by
      rcases (show b = s1.heap.objs.size + 1 ∨ b = s1.heap.objs.size by simpa using hb) with z | z
      · rw [z]; exact Nat.le_succ _
      · rw [z]; exact Nat.le_refl _
    exact I1.fpOk hle (I1.hok.fresh hle)
section
variable {K : PySem.W.Frag} {ta : TA} {g : TG} {tb : TS} {D : Ends} {σ : L2.St} {H : Hp} {tt : TT} {te : TE} {vs : List Nat} {Q : VK}
theorem tFor_enumT : tFor (iEnumT K ta) g tb D σ H = ta σ H fun vs H1 => ∃ a xs, vs = [.ref a] ∧ SqT K H1 a xs ∧ tFor (fun _ H R => R (ItU K a) H) g tb D σ H1 := by
  unfold tFor iEnumT
  rfl
theorem walk_enumT {a : Addr} {xs : List V} : Walk (ItU K a) xs.length (fun H => SqT K H a xs) (fun i H v H' => ∃ N x, v = .ref N ∧ H N = none ∧ H' = upd H N (.tup [.int (i : Nat), x]) ∧ xs[i]? = some x) :=
  ⟨fun i H hi h => ⟨xs, _, h, List.getElem?_eq_getElem hi⟩, fun H h => ⟨xs, h, rfl⟩, fun i H x H' hi h ⟨N, y, e1, e2, e3, e4⟩ => ⟨N, y, e1, e2, e3, e4 xs h⟩⟩
/-- a for over enumerate(tuple), by an invariant -/
theorem for_enumT {a : Addr} {xs : List V} (Pv : Nat → L2.St → Hp → Prop) (h0 : Pv 0 σ H) (hl : ∀ i σ H, i ≤ xs.length → Pv i σ H → SqT K H a xs)
    (hs : ∀ i x σ H N, xs[i]? = some x → Pv i σ H → H N = none → g (.ref N) σ (upd H N (.tup [.int (i : Nat), x])) fun σ2 H2 => tb { D with nx := Pv (i + 1), ct := Pv (i + 1), bk := D.nx } σ2 H2) (hd : ∀ σ H, Pv xs.length σ H → D.nx σ H) :
    tFor (fun _ H R => R (ItU K a) H) g tb D σ H := for_it walk_enumT Pv h0 hl (fun i x σ H H' hi hp hy => by
      obtain ⟨N, y, rfl, hN, rfl, hx⟩ := hy
      exact hs i y σ H N hx hp hN) hd
end
/-! ### plain tuples: the object has no dict of its own -/
def PlO (o : Obj) : Prop := o.cls = .type "tuple" ∧ o.dict = none
def PlT (H : Hp) (a : Addr) (xs : List V) : Prop := ∃ o, H a = some (.frz o (.tup xs)) ∧ PlO o
theorem PlT.sqt {K : PySem.W.Frag} {H : Hp} {a : Addr} {xs : List V} (h : PlT H a xs) : SqT K H a xs := by
  obtain ⟨o, e, _⟩ := h
  exact .inl (.inr ⟨o, e⟩)
theorem PlT.keep {H H' : Hp} {a : Addr} {xs : List V} (h : PlT H a xs) (s : ∀ o, H a = some o → H' a = some o) : PlT H' a xs := by
  obtain ⟨o, e, q⟩ := h
  exact ⟨o, s _ e, q⟩
theorem PlT.new {H : Hp} {a : Addr} {xs : List V} {o : Obj} (h : PlO o) : PlT (upd H a (.frz o (.tup xs))) a xs := ⟨o, upd_same, h⟩
section
variable {X : Cx} {K : PySem.W.Frag}
theorem laid_plain {pins : List (Addr × Obj)} {σ : L2.St} {H : Hp} {s : Shared} {ys : List V} {its : List Value} (I : Inv X pins σ H s) (r : Vals ys its) (z : ys.length ≤ sizeLine) :
    Inv X pins σ (upd H s.heap.objs.size (.frz { cls := .type "tuple", data := .seq its.toArray } (.tup ys))) { s with heap := s.heap.push { cls := .type "tuple", data := .seq its.toArray } } :=
  I.laid (t' := s.toks) (fun b o e => Heap.get?_push_of_some _ e) (Nat.le_refl _) ⟨Heap.get?_push_size _ rfl, z, its, r, IsTup.new _ _⟩
def rTupP (K : PySem.W.Frag) : List V → Hp → VK → Prop := fun xs H Q => ∃ p ys, xs = [.ref p] ∧ SqL K H p ys ∧ ∀ l o, H l = none → PlO o → Q (.ref l) (upd H l (.frz o (.tup ys)))
/-- tuple(list), plain -/
theorem call_tupP (hK : X.K = K) : CallR X (.type "tuple") (rTupP K) := by
  subst hK
  intro pins s σ H xs us Q I r h
  obtain ⟨p, ys, rfl, hq, q⟩ := h
  obtain ⟨u, rfl, rx⟩ := vals1 r
  cases rx
  obtain ⟨its, r', pl, hz⟩ := I.list hq
  have hlen := r'.length
  refine call_tuple_list pl.isList (fun h' kp => ?_) (by simp only [List.size_toArray] <;> omega)
  have I1 : Inv X pins σ H { s with heap := h' } := I.kept (t' := s.toks) kp
  exact ⟨.ref h'.objs.size, _, laid_plain I1 r' hz, rfl, q _ _ (I1.hok.fresh (Nat.le_refl _)) ⟨rfl, rfl⟩⟩
def rCatP : R2 := fun x y H Q => ∃ a b xs ys, x = .ref a ∧ y = .ref b ∧ PlT H a xs ∧ PlT H b ys ∧ xs.length + ys.length ≤ 1000000 ∧
  ∀ p H', PlT H' p (xs ++ ys) → Same H H' → Q (.ref p) H'
theorem line_big : 1000000 ≤ sizeLine := by rw [sizeLine_eq]; decide
/-- t + u, plain -/
theorem op_catP : OpR X (binaryOp .Add) rCatP := by
  intro pins s σ H x y v u Q I rx ry h
  obtain ⟨a, b, xs, ys, rfl, rfl, ha, hb, hz, q⟩ := h
  cases rx
  cases ry
  have hsz := Nat.le_trans hz line_big
  obtain ⟨its, r1, p1, _⟩ := I.tuple (ha.sqt (K := X.K))
  obtain ⟨its2, r2, p2, _⟩ := I.tuple (hb.sqt (K := X.K))
  by_cases hx : xs = []
  · subst hx
    cases r1
    exact cat_tup0 p1 p2 ⟨.ref b, H, I, rfl, q b H (by simpa using hb) fun _ _ e => e⟩
  · refine HT.cat_tup p1 p2 (fun z => hx (r1.nil_iff.mp z)) (fun z => ?_) (fun z => ?_) (by rw [← r1.length, ← r2.length]; exact hsz)
    · have e := r2.nil_iff.mp z
      subst e
      exact ⟨.ref a, H, I, rfl, q a H (by simpa using ha) fun _ _ e => e⟩
    · have hf := I.hok.fresh (Nat.le_refl s.heap.objs.size)
      exact ⟨.ref s.heap.objs.size, _, laid_plain I (r1.append r2) (by rw [List.length_append]; exact hsz), rfl, q _ _ (.new ⟨rfl, rfl⟩) fun b o e => by rw [upd_ne (ne_of_none e hf)]; exact e⟩
def tTupP (t : TA) : TE := fun σ H Q => t σ H fun xs H1 => xs.length ≤ sizeLine ∧ ∀ p o, H1 p = none → PlO o → Q (.ref p) (upd H1 p (.frz o (.tup xs)))
/-- a written tuple, plain -/
theorem pe_tupP {es : List Expr} {t : TA} {pos : Pos} {x1} (h : PA X es t) : PE X (.Tuple es x1 pos) (tTupP t) := by
  refine ⟨fun pins s σ H Q I hq => ?_⟩
  refine wpAny_Tuple_spliced (thn (h.run pos pins s σ H _ I hq) fun us s1 ⟨xs, H1, I1, r, z, q⟩ => ⟨by rw [← r.length]; exact z, ?_⟩)
  exact ⟨.ref s1.heap.objs.size, _, laid_plain I1 r z, rfl, q _ _ (I1.hok.fresh (Nat.le_refl _)) ⟨rfl, rfl⟩⟩
def rSlP : V → Option Int → Option Int → Hp → VK → Prop := fun x lo hi H Q => ∃ a xs, x = .ref a ∧ PlT H a xs ∧ ∀ p H', PlT H' p (cutV xs lo hi) → Same H H' → Q (.ref p) H'
theorem cutV_whole {xs : List V} {lo hi : Option Int} (h : HT.sIx xs.length 0 lo = 0 ∧ HT.sIx xs.length xs.length hi = xs.length) : cutV xs lo hi = xs := by
  unfold cutV
  rw [h.1, h.2, List.drop_zero, Nat.sub_zero, List.take_length]
/-- t[lo:hi], plain -/
theorem sl_tupP : SlR X rSlP := by
  intro pins s σ H x v vl vu lo hi sl Q I rx hs pl pu h
  obtain ⟨a, xs, rfl, hx, q⟩ := h
  cases rx
  obtain ⟨its, r, ht, hz⟩ := I.tuple (hx.sqt (K := X.K))
  have hlen : its.toArray.size = xs.length := by rw [List.size_toArray]; exact r.length.symm
  refine ⟨"tuple", _, PyProof.Rows.slot_tuple_getitem.lookup, ht.typeIs, ?_⟩
  by_cases hw : HT.sIx xs.length 0 lo = 0 ∧ HT.sIx xs.length xs.length hi = xs.length
  · exact getItem_tuple_whole ht hs pl pu (by rw [hlen]; exact hw) ⟨.ref a, H, I, rfl, q a H (by rw [cutV_whole hw]; exact hx) fun _ _ e => e⟩
  · refine HT.getItem_tuple_cut ht hs pl pu (by rw [hlen]; exact hw) ?_ (by rw [hlen]; exact hz)
    rw [hlen]
    have hf := I.hok.fresh (Nat.le_refl s.heap.objs.size)
    exact ⟨.ref s.heap.objs.size, _, laid_plain I ((r.drop (HT.sIx xs.length 0 lo)).take (HT.sIx xs.length xs.length hi - HT.sIx xs.length 0 lo)) (Nat.le_trans (cutV_length xs lo hi) hz), rfl,
      q _ _ (.new ⟨rfl, rfl⟩) fun b o e => by rw [upd_ne (ne_of_none e hf)]; exact e⟩
/-! ### dict(tuple of pairs) -/
def rDictT (K : PySem.W.Frag) : List V → Hp → VK → Prop := fun xs H Q => ∃ (a : Addr) (ps : List Addr) (kvs : List (Key × V)), xs = [.ref a] ∧ PlT H a (ps.map V.ref) ∧ Paired (fun p kv => SqT K H p [kV kv.1, kv.2]) ps kvs ∧ ∀ p, H p = none → Q (.ref p) (upd H p (.dK (mergeK [] kvs)))
theorem pairs_of2 {pins : List (Addr × Obj)} {σ : L2.St} {H : Hp} {s : Shared} (I : Inv X pins σ H s) : ∀ {ps : List Addr} {kvs : List (Key × V)}, Paired (fun p kv => SqT X.K H p [kV kv.1, kv.2]) ps kvs →
    ∃ (prs : List (Key × Value)) (vps : List (Value × Value)), KV kvs prs ∧ prs.length = ps.length ∧ vps.length = ps.length ∧ ∀ (j : Nat) (q : Value × Value), vps[j]? = some q → ∃ (b : Addr) (k : Key), ps[j]? = some b ∧ prs[j]? = some (k, q.2) ∧ IsTup s.heap b #[q.1, q.2] ∧ keyIs k q.1 = true
  | _, _, .nil => ⟨[], [], .nil, rfl, rfl, fun j q e => by simp at e⟩
  | _, _, .cons (a := p) (b := kv) h t => by
    obtain ⟨prs, vps, r, hl, hv, hp⟩ := pairs_of2 I t
    obtain ⟨its, rv, ht, _⟩ := I.tuple h
    obtain ⟨u, y, ei, ru, ry⟩ := vals2 rv
    subst ei
    refine ⟨(kv.1, y) :: prs, (u, y) :: vps, .cons ⟨rfl, ry⟩ r, by rw [List.length_cons, List.length_cons, hl], by rw [List.length_cons, List.length_cons, hv], fun j q e => ?_⟩
    cases j with
    | zero =>
      have e' : (u, y) = q := Option.some.inj e
      subst e'
      exact ⟨p, kv.1, rfl, rfl, ht, kV_is (P := X.prog) (w := X.w) ru⟩
    | succ j =>
      obtain ⟨b, k', e1, e2, e3, e4⟩ := hp j q (by simpa using e)
      exact ⟨b, k', by simpa using e1, by simpa using e2, e3, e4⟩
theorem call_dictT (hK : X.K = K) (hcalm : X.calm = true) : CallR X (.type "dict") (rDictT K) := by
  subst hK
  intro pins s σ H xs us Q I r q
  obtain ⟨a, ps, kvs, rfl, ⟨o, ha, hc, hd⟩, hp, q⟩ := q
  obtain ⟨u, rfl, rx⟩ := vals1 r
  cases rx
  obtain ⟨ho, hz, its, rv, tp⟩ := (show ObjOk X.prog X.w H s.heap a (.frz o (.tup (ps.map V.ref))) from I.hok a _ ha)
  have ei := refs_at rv
  subst ei
  rw [List.length_map] at hz
  obtain ⟨prs, vps, rel, hl, hv, hpr⟩ := pairs_of2 I hp
  obtain ⟨o', ho', _, n, hdat⟩ := tp
  rw [ho] at ho'
  cases ho'
  refine PySem.call_dict_pairs (knd := mixKind X.prog X.w) (kvs := prs) (PairArg.tuple a (ps.map Value.ref).toArray (fun j => (ps[j]?).getD 0) vps) (I.ok.hd hcalm)
    ⟨⟨o, n, ho, hc, hd, hdat⟩, by simp [hv], fun j k v e => ?_⟩ ⟨by rw [hl, hv], fun i key v e => ?_⟩ (by rw [hv]; exact hz) fun h' tk hd' hk => ?_
  · obtain ⟨b, k', e1, e2, e3, e4⟩ := hpr j _ e
    refine ⟨by simp [e1], .inl ?_⟩
    simp only [e1, Option.getD_some]
    exact e3
  · obtain ⟨b, k', e1, e2, e3, e4⟩ := hpr i _ e
    exact ⟨k', e2, e4⟩
  · have hm : (s.heap.objs.size == sysModules) = false := beq_eq_false_iff_ne.mpr (Nat.ne_of_gt I.big)
    have hlen : (mergeK [] kvs).length ≤ sizeLine := by
      refine Nat.le_trans (length_mergeK kvs []) ?_
      rw [List.length_nil, Nat.zero_add, rel.length, hl]
      exact hz
    exact ⟨.ref s.heap.objs.size, upd H s.heap.objs.size (.dK (mergeK [] kvs)), I.laid (t' := tk) (fun b o e => hk b o (by simp) e) (Nat.le_refl _) (show ObjOk X.prog X.w _ _ _ (.dK (mergeK [] kvs)) from ⟨hlen, hm, merged [] prs, KV.merge rel .nil, hd'⟩), rfl, q _ (I.hok.fresh (Nat.le_refl _))⟩
end
end En

set_option Elab.async false
set_option linter.all false
set_option maxRecDepth 100000
set_option maxHeartbeats 2000000
/-! pairs of stores in the heap; texts of stores, read again -/
namespace Sx
open PySem PySem.Spec PyProof.Rows L2 Rd Dt Pk Ln En TL
def L1 (c : Nat) : Str := ⟨#[c]⟩
def nk (n : Nat × Nat) : Key × V := (.inr (L1 n.1), .int n.2)
def ck (c : Nat × Nat) : Key × V := (.inl c.1, .int c.2)
/-! ### pairs in the heap -/
section
variable {K : PySem.W.Frag} {H H' : Hp}
inductive Prs (K : PySem.W.Frag) (H : Hp) : List V → List (Key × V) → Prop
  | nil : Prs K H [] []
  | cons {p : Addr} {kv : Key × V} {xs : List V} {kvs : List (Key × V)} : SqT K H p [kV kv.1, kv.2] → Prs K H xs kvs → Prs K H (.ref p :: xs) (kv :: kvs)
theorem sqt_up (s : Same H H') {a : Addr} {xs : List V} (h : SqT K H a xs) : SqT K H' a xs := by
  rcases h with (h | ⟨o, h⟩) | h
  · exact .inl (.inl (s _ _ h))
  · exact .inl (.inr ⟨o, s _ _ h⟩)
  · exact .inr h
theorem sqt_but {u : Addr} (s : But u H H') {a : Addr} (hn : a ≠ u) {xs : List V} (h : SqT K H a xs) : SqT K H' a xs := by
  rcases h with (h | ⟨o, h⟩) | h
  · exact .inl (.inl (s _ _ hn h))
  · exact .inl (.inr ⟨o, s _ _ hn h⟩)
  · exact .inr h
theorem Prs.keep (s : ∀ a xs, SqT K H a xs → SqT K H' a xs) : ∀ {xs : List V} {kvs : List (Key × V)}, Prs K H xs kvs → Prs K H' xs kvs
  | _, _, .nil => .nil
  | _, _, .cons e h => .cons (s _ _ e) (h.keep s)
theorem Prs.up (s : Same H H') {xs : List V} {kvs : List (Key × V)} (h : Prs K H xs kvs) : Prs K H' xs kvs := h.keep fun _ _ e => sqt_up s e
theorem Prs.len : ∀ {xs : List V} {kvs : List (Key × V)}, Prs K H xs kvs → xs.length = kvs.length
  | _, _, .nil => rfl
  | _, _, .cons _ h => congrArg (· + 1) h.len
theorem Prs.atV : ∀ {xs : List V} {kvs : List (Key × V)}, Prs K H xs kvs → ∀ {i : Nat} {v : V}, xs[i]? = some v → ∃ (kv : Key × V) (b : Addr), kvs[i]? = some kv ∧ v = .ref b ∧ SqT K H b [kV kv.1, kv.2]
  | _, _, .nil, i, v, h => by cases i <;> cases h
  | _, _, .cons e h, i, v, hv => by
    cases i with
    | zero => cases hv; exact ⟨_, _, rfl, rfl, e⟩
    | succ i => exact h.atV hv
theorem Prs.append : ∀ {xs ys : List V} {ws vs : List (Key × V)}, Prs K H xs ws → Prs K H ys vs → Prs K H (xs ++ ys) (ws ++ vs)
  | _, _, _, _, .nil, g => g
  | _, _, _, _, .cons e h, g => .cons e (h.append g)
theorem Prs.take : ∀ {xs : List V} {ws : List (Key × V)}, Prs K H xs ws → ∀ n, Prs K H (xs.take n) (ws.take n)
  | _, _, .nil, n => by cases n <;> exact .nil
  | _, _, .cons e h, n => by
    cases n with
    | zero => exact .nil
    | succ n => exact .cons e (h.take n)
theorem Prs.drop : ∀ {xs : List V} {ws : List (Key × V)}, Prs K H xs ws → ∀ n, Prs K H (xs.drop n) (ws.drop n)
  | _, _, .nil, n => by cases n <;> exact .nil
  | _, _, .cons e h, n => by
    cases n with
    | zero => exact .cons e h
    | succ n => exact h.drop n
theorem Prs.refs : ∀ {xs : List V} {kvs : List (Key × V)}, Prs K H xs kvs → ∃ ps : List Addr, xs = ps.map V.ref ∧ Paired (fun p kv => SqT K H p [kV kv.1, kv.2]) ps kvs
  | _, _, .nil => ⟨[], rfl, .nil⟩
  | _, _, .cons (p := p) e h => by
    obtain ⟨ps, rfl, q⟩ := h.refs
    exact ⟨p :: ps, rfl, .cons e q⟩
/-- a plain tuple of pairs -/
def PrsAt (K : PySem.W.Frag) (H : Hp) (a : Addr) (kvs : List (Key × V)) : Prop := ∃ xs, PlT H a xs ∧ Prs K H xs kvs
theorem PlT.up (s : Same H H') {a : Addr} {xs : List V} (h : PlT H a xs) : PlT H' a xs := h.keep fun o e => s _ _ e
theorem PrsAt.up (s : Same H H') {a : Addr} {kvs : List (Key × V)} (h : PrsAt K H a kvs) : PrsAt K H' a kvs := by
  obtain ⟨xs, h1, h2⟩ := h
  exact ⟨xs, PlT.up s h1, h2.up s⟩
theorem Prs.but {u : Addr} (s : But u H H') {o : HO} (hu : H u = some o) (ho : ∀ xs, o ≠ .tup xs ∧ ∀ ob, o ≠ .frz ob (.tup xs)) {xs : List V} {kvs : List (Key × V)} (h : Prs K H xs kvs) : Prs K H' xs kvs :=
  h.keep fun a ys e => by
    rcases e with (e | ⟨ob, e⟩) | e
    · exact .inl (.inl (s _ _ (ne_of e hu fun z => (ho ys).1 z.symm) e))
    · exact .inl (.inr ⟨ob, s _ _ (ne_of e hu fun z => (ho ys).2 ob z.symm) e⟩)
    · exact .inr e
theorem PrsAt.but {u : Addr} (s : But u H H') {o : HO} (hu : H u = some o) (ho : ∀ xs, o ≠ .tup xs ∧ ∀ ob, o ≠ .frz ob (.tup xs)) {a : Addr} {kvs : List (Key × V)} (h : PrsAt K H a kvs) : PrsAt K H' a kvs := by
  obtain ⟨xs, ⟨ob, h1, h3⟩, h2⟩ := h
  exact ⟨xs, ⟨ob, s _ _ (ne_of h1 hu fun z => (ho xs).2 ob z.symm) h1, h3⟩, h2.but s hu ho⟩
/-! ### as data -/
def kD : Key → PyData
  | .inl i => .int i
  | .inr s => .str s
def vD : V → PyData
  | .int i => .int i
  | _ => .none
def pD (kv : Key × V) : PyData := .tuple [kD kv.1, vD kv.2]
def IntV (kvs : List (Key × V)) : Prop := ∀ kv ∈ kvs, ∃ i, kv.2 = .int i
theorem Prs.dp : ∀ {xs : List V} {kvs : List (Key × V)}, Prs K H xs kvs → IntV kvs → DpAll K H xs (kvs.map pD)
  | _, _, .nil, _ => .nil
  | _, _, .cons (kv := kv) e h, z => by
    refine .cons (.tup e (.cons ?_ (.cons ?_ .nil))) (h.dp fun x hx => z x (List.mem_cons_of_mem _ hx))
    · cases kv.1 with
      | inl i => exact .int i
      | inr s => exact .str s
    · obtain ⟨i, ei⟩ := z kv (List.mem_cons_self ..)
      rw [ei]
      exact .int i
theorem PrsAt.dp {a : Addr} {kvs : List (Key × V)} (h : PrsAt K H a kvs) (z : IntV kvs) : Dp K H (.ref a) (.tuple (kvs.map pD)) := by
  obtain ⟨xs, h1, h2⟩ := h
  exact .tup h1.sqt (h2.dp z)
theorem intV_n (ns : List (Nat × Nat)) : IntV (ns.map nk) := fun kv hk => by
  obtain ⟨n, _, rfl⟩ := List.mem_map.mp hk
  exact ⟨_, rfl⟩
theorem intV_c (ns : List (Nat × Nat)) : IntV (ns.map ck) := fun kv hk => by
  obtain ⟨n, _, rfl⟩ := List.mem_map.mp hk
  exact ⟨_, rfl⟩
end
/-! ### dicts of pairs -/
theorem putK_new {κ : Type} [DecidableEq κ] {kvs : List (κ × V)} {k : κ} {v : V} (h : ∀ x ∈ kvs, x.1 ≠ k) : putK kvs k v = kvs ++ [(k, v)] := by
  unfold putK
  rw [if_neg]
  intro z
  obtain ⟨x, hx, e⟩ := List.any_eq_true.mp z
  exact h x hx (of_decide_eq_true e)
theorem merge_new : ∀ (kvs acc : List (Key × V)), (∀ x ∈ acc, ∀ y ∈ kvs, x.1 ≠ y.1) → kvs.Pairwise (fun x y => x.1 ≠ y.1) → mergeK acc kvs = acc ++ kvs
  | [], acc, _, _ => by rw [List.append_nil]; rfl
  | kv :: kvs, acc, h, p => by
    rw [List.pairwise_cons] at p
    show mergeK (putK acc kv.1 kv.2) kvs = _
    rw [putK_new (fun x hx => h x hx kv (List.mem_cons_self ..)), merge_new kvs _ (fun x hx y hy => ?_) p.2, List.append_assoc]
    · rfl
    · rcases List.mem_append.mp hx with hx | hx
      · exact h x hx y (List.mem_cons_of_mem _ hy)
      · rw [List.mem_singleton.mp hx]
        exact p.1 y hy
def Asc (ns : List (Nat × Nat)) : Prop := ns.Pairwise fun x y => x.1 < y.1
theorem L1_inj {c d : Nat} (h : L1 c = L1 d) : c = d := by
  unfold L1 at h
  injection h with h
  have := congrArg Array.toList h
  simpa using this
theorem merge_n {ns : List (Nat × Nat)} (h : Asc ns) : mergeK [] (ns.map nk) = ns.map nk :=
  merge_new _ [] (fun _ hx => nomatch hx) (List.pairwise_map.mpr (h.imp fun {a b} q z => by
    have : (Sum.inr (L1 a.1) : Key) = .inr (L1 b.1) := z
    injection this with this
    have := L1_inj this
    omega))
theorem merge_c {cs : List (Nat × Nat)} (h : Asc cs) : mergeK [] (cs.map ck) = cs.map ck :=
  merge_new _ [] (fun _ hx => nomatch hx) (List.pairwise_map.mpr (h.imp fun {a b} q z => by
    have : (Sum.inl (a.1 : Int) : Key) = .inl (b.1 : Int) := z
    injection this with this
    omega))
/-- what is told behind a first part -/
def look (ns : List (Nat × Nat)) (k : Nat) : Option Nat := (ns.find? fun n => decide (n.1 = k)).map (·.2)
theorem val_n (ns : List (Nat × Nat)) (k : Nat) : valV (ns.map nk) (.inr (L1 k) : Key) = (look ns k).map fun v : Nat => V.int v := by
  unfold valV look
  rw [List.find?_map, Option.map_map, Option.map_map]
  have : ((fun kv : Key × V => decide (kv.1 = .inr (L1 k))) ∘ nk) = fun n => decide (n.1 = k) := by
    funext n
    show decide ((Sum.inr (L1 n.1) : Key) = .inr (L1 k)) = _
    rw [decide_eq_decide]
    exact ⟨fun z => by injection z with z; exact L1_inj z, fun z => by rw [z]⟩
  rw [this]
  rfl
theorem val_c (ns : List (Nat × Nat)) (k : Int) : valV (ns.map ck) (.inl k : Key) = (if 0 ≤ k then look ns k.toNat else none).map fun v : Nat => V.int v := by
  unfold valV look
  rw [List.find?_map, Option.map_map]
  by_cases h : 0 ≤ k
  · rw [if_pos h, Option.map_map]
    have : ((fun kv : Key × V => decide (kv.1 = .inl k)) ∘ ck) = fun n => decide (n.1 = k.toNat) := by
      funext n
      show decide ((Sum.inl (n.1 : Int) : Key) = .inl k) = _
      rw [decide_eq_decide]
      exact ⟨fun z => by injection z with z; omega, fun z => by rw [z]; congr 1; omega⟩
    rw [this]
    rfl
  · rw [if_neg h]
    have : ((fun kv : Key × V => decide (kv.1 = .inl k)) ∘ ck) = fun n => false := by
      funext n
      show decide ((Sum.inl (n.1 : Int) : Key) = .inl k) = _
      rw [decide_eq_false]
      intro z
      injection z with z
      omega
    rw [this]
    simp
/-! ### texts -/
def nameW (n : Nat × Nat) : Str := L1 n.1 ++ "=" ++ numT n.2
def cellW (c : Nat × Nat) : Str := numT c.1 ++ ">" ++ numT c.2
def namesT (ns : List (Nat × Nat)) : Str := Txt.join " " (ns.map nameW)
def cellsT (cs : List (Nat × Nat)) : Str := if cs = [] then "none" else Txt.join " " (cs.map cellW)
def storeT (ns cs : List (Nat × Nat)) : Str := namesT ns ++ " | " ++ cellsT cs
def lettT (ns : List (Nat × Nat)) : Str := Txt.join "" (ns.map fun n => L1 n.1)
def NmOk (ns : List (Nat × Nat)) : Prop := 1 ≤ ns.length ∧ ns.length ≤ 4 ∧ (∀ n ∈ ns, 97 ≤ n.1 ∧ n.1 ≤ 122 ∧ n.2 ≤ 999) ∧ Asc ns
def ClOk (cs : List (Nat × Nat)) : Prop := cs.length ≤ 500 ∧ (∀ c ∈ cs, 1 ≤ c.1 ∧ c.1 ≤ 999 ∧ c.2 ≤ 999) ∧ Asc cs
theorem pre_second {a b : Nat} {S l : List Nat} (h : l[1]? ≠ some b) : pre (a :: b :: S) l = false := by
  unfold pre
  rw [beq_eq_false_iff_ne]
  intro z
  apply h
  have := congrArg (fun m : List Nat => m[1]?) z
  simp only [List.getElem?_cons_succ, List.getElem?_cons_zero] at this
  rw [List.getElem?_take] at this
  split at this
  · exact this
  · cases this
theorem tl_bar : tl " | " = [32, 124, 32] := by decide +kernel
theorem tl_eq : tl "=" = 61 :: [] := by decide +kernel
theorem tl_gt : tl ">" = 62 :: [] := by decide +kernel
theorem tl_L1 (c : Nat) : tl (L1 c) = [c] := rfl
theorem split_bar {a b : Str} (ha : 124 ∉ tl a) (hb : 124 ∉ tl b) : Txt.split (a ++ " | " ++ b) " | " = [a, b] := by
  refine map_tl_inj ?_
  rw [split_spl _ _ (by rw [tl_bar]; simp) (kind_ok (by decide +kernel)), tl_append, tl_append, tl_bar, List.append_assoc]
  have one : ∀ (p : List Nat) (i : Nat) (r : List Nat), 124 ∉ p → i < p.length → ((p ++ (32 :: r)).drop i)[1]? ≠ some 124 := fun p i r hp hi z => by
    rw [List.getElem?_drop] at z
    by_cases c : i + 1 < p.length
    · rw [List.getElem?_append_left c] at z
      exact hp (List.mem_of_getElem? z)
    · rw [List.getElem?_append_right (by omega), show i + 1 - p.length = 0 by omega] at z
      simp at z
  rw [spl_part (by simp) (fun i hi => pre_second (one _ i _ ha hi)), spl_last (fun i hi => pre_second fun z => hb ?_)]
  · simp
  · rw [List.getElem?_drop] at z
    exact List.mem_of_getElem? z
theorem num_no {n s : Nat} (h : n ≤ 999) (hs : s < 48 ∨ 57 < s) : s ∉ tl (numT n) := fun z => by
  have := (numT_at (show n ≤ 1000 by omega)).2.2.1 s z
  omega
theorem name_split {n : Nat × Nat} (h : 97 ≤ n.1) (h2 : n.2 ≤ 999) : Txt.split (nameW n) "=" = [L1 n.1, numT n.2] := by
  have e : nameW n = Txt.join "=" [L1 n.1, numT n.2] := by rw [join_eq]; rfl
  rw [e]
  refine split_join tl_eq (by decide +kernel) (by simp) fun p hp => ?_
  rcases List.mem_cons.mp hp with rfl | hp
  · rw [tl_L1]; simp; omega
  · rw [List.mem_singleton.mp hp]; exact num_no h2 (by omega)
theorem cell_split {n : Nat × Nat} (h : n.1 ≤ 999) (h2 : n.2 ≤ 999) : Txt.split (cellW n) ">" = [numT n.1, numT n.2] := by
  have e : cellW n = Txt.join ">" [numT n.1, numT n.2] := by rw [join_eq]; rfl
  rw [e]
  refine split_join tl_gt (by decide +kernel) (by simp) fun p hp => ?_
  rcases List.mem_cons.mp hp with rfl | hp
  · exact num_no h (by omega)
  · rw [List.mem_singleton.mp hp]; exact num_no h2 (by omega)
theorem nameW_no {n : Nat × Nat} {s : Nat} (h : 97 ≤ n.1 ∧ n.1 ≤ 122) (h2 : n.2 ≤ 999) (hs : s < 48 ∨ 122 < s) : s ∉ tl (nameW n) := by
  unfold nameW
  rw [tl_append, tl_append, tl_eq, tl_L1]
  intro z
  rcases List.mem_append.mp z with z | z
  · simp at z; omega
  · exact num_no h2 (by omega) z
theorem cellW_no {n : Nat × Nat} {s : Nat} (h : n.1 ≤ 999) (h2 : n.2 ≤ 999) (hs : s < 48 ∨ 122 < s) : s ∉ tl (cellW n) := by
  unfold cellW
  rw [tl_append, tl_append, tl_gt]
  intro z
  rcases List.mem_append.mp z with z | z
  · rcases List.mem_append.mp z with z | z
    · exact num_no h (by omega) z
    · simp at z; omega
  · exact num_no h2 (by omega) z
theorem joinL_mem {S : List Nat} {s : Nat} : ∀ {ps : List (List Nat)}, s ∈ joinL S ps → s ∈ S ∨ ∃ p ∈ ps, s ∈ p
  | [], h => nomatch h
  | [p], h => .inr ⟨p, List.mem_singleton.mpr rfl, h⟩
  | p :: q :: r, h => by
    rcases List.mem_append.mp (show s ∈ p ++ (S ++ joinL S (q :: r)) from h) with h | h
    · exact .inr ⟨p, List.mem_cons_self .., h⟩
    · rcases List.mem_append.mp h with h | h
      · exact .inl h
      · rcases joinL_mem h with h | ⟨x, hx, hs⟩
        · exact .inl h
        · exact .inr ⟨x, List.mem_cons_of_mem _ hx, hs⟩
theorem join_no {y : Str} {ws : List Str} {s : Nat} (hy : s ∉ tl y) (h : ∀ w ∈ ws, s ∉ tl w) : s ∉ tl (Txt.join y ws) := by
  rw [join_eq, tl_join]
  intro z
  rcases joinL_mem z with z | ⟨p, hp, hs⟩
  · exact hy z
  · obtain ⟨w, hw, rfl⟩ := List.mem_map.mp hp
    exact h w hw hs
theorem names_no {ns : List (Nat × Nat)} (h : NmOk ns) : 124 ∉ tl (namesT ns) := join_no (by decide +kernel) fun w hw => by
  obtain ⟨n, hn, rfl⟩ := List.mem_map.mp hw
  have := h.2.2.1 n hn
  exact nameW_no ⟨this.1, this.2.1⟩ this.2.2 (by omega)
theorem cells_no {cs : List (Nat × Nat)} (h : ClOk cs) : 124 ∉ tl (cellsT cs) := by
  unfold cellsT
  split
  · decide +kernel
  · exact join_no (by decide +kernel) fun w hw => by
      obtain ⟨n, hn, rfl⟩ := List.mem_map.mp hw
      have := h.2.1 n hn
      exact cellW_no this.2.1 this.2.2 (by omega)
theorem store_split {ns cs : List (Nat × Nat)} (h : NmOk ns) (g : ClOk cs) : Txt.split (storeT ns cs) " | " = [namesT ns, cellsT cs] := split_bar (names_no h) (cells_no g)
theorem names_split {ns : List (Nat × Nat)} (h : NmOk ns) : Txt.split (namesT ns) " " = ns.map nameW := by
  refine split_join tl_spc (by decide +kernel) (fun z => ?_) fun p hp => ?_
  · have := h.1
    have e := List.map_eq_nil_iff.mp z
    rw [e] at this
    simp at this
  · obtain ⟨n, hn, rfl⟩ := List.mem_map.mp hp
    have := h.2.2.1 n hn
    exact nameW_no ⟨this.1, this.2.1⟩ this.2.2 (by omega)
theorem cells_split {cs : List (Nat × Nat)} (hc : cs ≠ []) (h : ClOk cs) : Txt.split (cellsT cs) " " = cs.map cellW := by
  unfold cellsT
  rw [if_neg hc]
  refine split_join tl_spc (by decide +kernel) (by simpa using hc) fun p hp => ?_
  obtain ⟨n, hn, rfl⟩ := List.mem_map.mp hp
  have := h.2.1 n hn
  exact cellW_no this.2.1 this.2.2 (by omega)
theorem cells_none {cs : List (Nat × Nat)} (hc : cs ≠ []) (h : ClOk cs) : cellsT cs ≠ "none" := fun z => by
  have e := cells_split hc h
  rw [z] at e
  have e2 : Txt.split (Txt.join " " [Str.ofString "none"]) " " = [Str.ofString "none"] := split_join tl_spc (by decide +kernel) (by simp) (fun p hp => by rw [List.mem_singleton.mp hp]; decide +kernel)
  have e3 : Txt.join " " [Str.ofString "none"] = "none" := by rw [join_eq]; rfl
  rw [e3] at e2
  rw [e2] at e
  cases cs with
  | nil => exact hc rfl
  | cons c r =>
    have e4 : Str.ofString "none" = cellW c := by
      rw [List.map_cons] at e
      injection e
    have e5 : 62 ∈ tl (cellW c) := by
      unfold cellW
      rw [tl_append, tl_append, tl_gt]
      simp
    rw [← e4] at e5
    exact absurd e5 (by decide +kernel)
theorem cells_empty {cs : List (Nat × Nat)} (hc : cs ≠ []) (h : ClOk cs) : Txt.join " " (cs.map cellW) ≠ "" := fun z => by
  have e := cells_split hc h
  unfold cellsT at e
  rw [if_neg hc, z] at e
  have e2 : Txt.split (Txt.join " " [Str.ofString ""]) " " = [Str.ofString ""] := split_join tl_spc (by decide +kernel) (by simp) (fun p hp => by rw [List.mem_singleton.mp hp]; decide +kernel)
  have e3 : Txt.join " " [Str.ofString ""] = "" := by rw [join_eq]; rfl
  rw [e3] at e2
  rw [e2] at e
  cases cs with
  | nil => exact hc rfl
  | cons c r =>
    have e4 : Str.ofString "" = cellW c := by
      rw [List.map_cons] at e
      injection e
    have e5 : 62 ∈ tl (cellW c) := by
      unfold cellW
      rw [tl_append, tl_append, tl_gt]
      simp
    rw [← e4] at e5
    exact absurd e5 (by decide +kernel)
/-! ### lengths and signs -/
theorem nlen {n : Nat} (h : n ≤ 999) : (numT n).length ≤ 4 := by
  rw [(numT_at (show n ≤ 1000 by omega)).1]
  exact (nl_pos n).2
theorem nameW_len {n : Nat × Nat} (h : n.2 ≤ 999) : (nameW n).length ≤ 6 := by
  unfold nameW
  rw [Str.length_append, Str.length_append]
  have := nlen h
  have e : ("=" : Str).length = 1 := by decide
  have e1 : (L1 n.1).length = 1 := rfl
  omega
theorem cellW_len {n : Nat × Nat} (h1 : n.1 ≤ 999) (h : n.2 ≤ 999) : (cellW n).length ≤ 9 := by
  unfold cellW
  rw [Str.length_append, Str.length_append]
  have := nlen h
  have := nlen h1
  have e : (">" : Str).length = 1 := by decide
  omega
theorem joinL_len {S : List Nat} {m : Nat} : ∀ {ps : List (List Nat)}, (∀ p ∈ ps, p.length ≤ m) → (joinL S ps).length ≤ ps.length * (m + S.length)
  | [], _ => Nat.zero_le _
  | [p], h => by
    have := h p (List.mem_singleton.mpr rfl)
    show p.length ≤ 1 * (m + S.length)
    omega
  | p :: q :: r, h => by
    have h1 := h p (List.mem_cons_self ..)
    have h2 := joinL_len (S := S) (ps := q :: r) fun x hx => h x (List.mem_cons_of_mem _ hx)
    show (p ++ (S ++ joinL S (q :: r))).length ≤ ((q :: r).length + 1) * (m + S.length)
    rw [List.length_append, List.length_append, Nat.add_mul]
    omega
theorem join_len {y : Str} {ws : List Str} {m : Nat} (h : ∀ w ∈ ws, w.length ≤ m) : (Txt.join y ws).length ≤ ws.length * (m + y.length) := by
  rw [join_eq]
  have e : ∀ z : Str, z.length = (tl z).length := fun z => by unfold tl; rw [Array.length_toList]; rfl
  rw [e, tl_join, e y]
  have := joinL_len (S := tl y) (m := m) (ps := ws.map tl) fun p hp => by
    obtain ⟨w, hw, rfl⟩ := List.mem_map.mp hp
    rw [← e]
    exact h w hw
  rwa [List.length_map] at this
theorem namesT_len {ns : List (Nat × Nat)} (h : NmOk ns) : (namesT ns).length ≤ 28 := by
  have := join_len (y := " ") (ws := ns.map nameW) (m := 6) fun w hw => by
    obtain ⟨n, hn, rfl⟩ := List.mem_map.mp hw
    exact nameW_len (h.2.2.1 n hn).2.2
  rw [List.length_map] at this
  have e : (" " : Str).length = 1 := by decide
  rw [e] at this
  have := h.2.1
  unfold namesT
  omega
theorem cellsT_len {cs : List (Nat × Nat)} (h : ClOk cs) : (cellsT cs).length ≤ 5004 ∧ (Txt.join " " (cs.map cellW)).length ≤ 5000 := by
  have := join_len (y := " ") (ws := cs.map cellW) (m := 9) fun w hw => by
    obtain ⟨n, hn, rfl⟩ := List.mem_map.mp hw
    exact cellW_len (h.2.1 n hn).2.1 (h.2.1 n hn).2.2
  rw [List.length_map] at this
  have e : (" " : Str).length = 1 := by decide
  rw [e] at this
  have := h.1
  refine ⟨?_, by omega⟩
  unfold cellsT
  split
  · have : ("none" : Str).length = 4 := by decide
    omega
  · omega
theorem storeT_len {ns cs : List (Nat × Nat)} (h : NmOk ns) (g : ClOk cs) : (storeT ns cs).length ≤ 5040 := by
  unfold storeT
  rw [Str.length_append, Str.length_append]
  have := namesT_len h
  have := (cellsT_len g).1
  have e : (" | " : Str).length = 3 := by decide
  omega
theorem lettT_len {ns : List (Nat × Nat)} (h : NmOk ns) : (lettT ns).length ≤ 4 := by
  have := join_len (y := "") (ws := ns.map fun n => L1 n.1) (m := 1) fun w hw => by
    obtain ⟨n, hn, rfl⟩ := List.mem_map.mp hw
    exact Nat.le_refl _
  rw [List.length_map] at this
  have e : ("" : Str).length = 0 := by decide
  rw [e] at this
  have := h.2.1
  unfold lettT
  omega
theorem namesT_ch {ns : List (Nat × Nat)} (h : NmOk ns) : ∀ c ∈ tl (namesT ns), c < 0x110000 := fun c hc => by
  refine Decidable.by_contra fun z => ?_
  refine join_no ?_ (fun w hw => ?_) hc
  · rw [show tl " " = [32] from by decide +kernel]; simp; omega
  · obtain ⟨n, hn, rfl⟩ := List.mem_map.mp hw
    have := h.2.2.1 n hn
    exact nameW_no ⟨this.1, this.2.1⟩ this.2.2 (by omega)
theorem cellsT_ch {cs : List (Nat × Nat)} (h : ClOk cs) : ∀ c ∈ tl (cellsT cs), c < 0x110000 := fun c hc => by
  refine Decidable.by_contra fun z => ?_
  unfold cellsT at hc
  split at hc
  · rw [show tl "none" = [110, 111, 110, 101] from by decide +kernel] at hc
    simp at hc
    omega
  · refine join_no ?_ (fun w hw => ?_) hc
    · rw [show tl " " = [32] from by decide +kernel]; simp; omega
    · obtain ⟨n, hn, rfl⟩ := List.mem_map.mp hw
      have := h.2.1 n hn
      exact cellW_no this.2.1 this.2.2 (by omega)
theorem storeT_ch {ns cs : List (Nat × Nat)} (h : NmOk ns) (g : ClOk cs) : ∀ c ∈ tl (storeT ns cs), c < 0x110000 := fun c hc => by
  unfold storeT at hc
  rw [tl_append, tl_append, tl_bar] at hc
  rcases List.mem_append.mp hc with hc | hc
  · rcases List.mem_append.mp hc with hc | hc
    · exact namesT_ch h c hc
    · simp at hc; omega
  · exact cellsT_ch g c hc
theorem lettT_ch {ns : List (Nat × Nat)} (h : NmOk ns) : ∀ c ∈ tl (lettT ns), c < 0x110000 := fun c hc => by
  refine Decidable.by_contra fun z => ?_
  refine join_no ?_ (fun w hw => ?_) hc
  · rw [show tl "" = [] from by decide +kernel]; simp
  · obtain ⟨n, hn, rfl⟩ := List.mem_map.mp hw
    have := h.2.2.1 n hn
    rw [tl_L1]; simp; omega
/-! ### isinstance of a tuple -/
def rIsT (K : PySem.W.Frag) : List V → Hp → VK → Prop := fun vs H Q => ∃ a xs, vs = [.ref a, .ty "tuple"] ∧ SqT K H a xs ∧ Q (.bl true) H
theorem rIsT_ {K : PySem.W.Frag} {vs : List V} {H : Hp} {Q : VK} : rIsT K vs H Q = ∃ a xs, vs = [.ref a, .ty "tuple"] ∧ SqT K H a xs ∧ Q (.bl true) H := rfl
theorem call_isT {X : Cx} {K : PySem.W.Frag} (hK : X.K = K) : CallR X (.builtin "isinstance") (rIsT K) := by
  subst hK
  intro pins s σ H vs us Q I r h
  obtain ⟨a, xs, rfl, ha, q⟩ := h
  cases r with
  | cons r1 rr =>
    cases rr with
    | cons r2 rr =>
      cases rr
      cases r1
      cases r2
      obtain ⟨its, _, ⟨o, h1, h2, _⟩, _⟩ := I.tuple ha
      exact PySem.W.kia_one (b := true) PySem.W.kitx_tuple I.kIn ⟨o, h1, h2⟩ (by rfl) (fun z => nomatch z) fun tk => ⟨.bl true, H, I.tok tk, rfl, q⟩
end Sx

set_option Elab.async false
set_option linter.all false
set_option maxRecDepth 100000
set_option maxHeartbeats 2000000
/-! readings; o.m(k = v) -/
namespace Sy
open PySem PySem.Spec PyProof.Rows L2 Rd Dt Pk Ln En Sx
section
variable {K : PySem.W.Frag} {σ : L2.St} {H : Hp} {Q : VK} {td ty tv te : TE} {t : TA}
theorem tTupP_ : tTupP t σ H Q = t σ H fun xs H1 => xs.length ≤ sizeLine ∧ ∀ p o, H1 p = none → PlO o → Q (.ref p) (upd H1 p (.frz o (.tup xs))) := rfl
theorem rTupP_ {xs : List V} : rTupP K xs H Q = ∃ p ys, xs = [.ref p] ∧ SqL K H p ys ∧ ∀ l o, H l = none → PlO o → Q (.ref l) (upd H l (.frz o (.tup ys))) := rfl
theorem rCatP_ {x y : V} : rCatP x y H Q = ∃ a b xs ys, x = .ref a ∧ y = .ref b ∧ PlT H a xs ∧ PlT H b ys ∧ xs.length + ys.length ≤ 1000000 ∧ ∀ p H', PlT H' p (xs ++ ys) → Same H H' → Q (.ref p) H' := rfl
theorem rSlP_ {x : V} {lo hi : Option Int} : rSlP x lo hi H Q = ∃ a xs, x = .ref a ∧ PlT H a xs ∧ ∀ p H', PlT H' p (cutV xs lo hi) → Same H H' → Q (.ref p) H' := rfl
theorem rDictT_ {xs : List V} : rDictT K xs H Q = ∃ (a : Addr) (ps : List Addr) (kvs : List (Key × V)), xs = [.ref a] ∧ PlT H a (ps.map V.ref) ∧ Paired (fun p kv => SqT K H p [kV kv.1, kv.2]) ps kvs ∧ ∀ p, H p = none → Q (.ref p) (upd H p (.dK (mergeK [] kvs))) := rfl
theorem tDGet_ : tDGet td ty σ H Q = td σ H fun x H1 => ty σ H1 fun y H2 => ∃ a v, x = .ref a ∧ DGet H2 a y (some v) ∧ Q v H2 := rfl
theorem tDGet1_ : tDGet1 td ty σ H Q = td σ H fun x H1 => ∃ a, x = .ref a ∧ IsD H1 a ∧ ty σ H1 fun y H2 => ∃ o, DGet H2 a y o ∧ Q (o.getD .non) H2 := rfl
theorem tDIn_ : tDIn ty td σ H Q = ty σ H fun y H1 => td σ H1 fun x H2 => ∃ a o, x = .ref a ∧ DGet H2 a y o ∧ Q (.bl o.isSome) H2 := rfl
theorem tDNotIn_ : tDNotIn ty td σ H Q = ty σ H fun y H1 => td σ H1 fun x H2 => ∃ a o, x = .ref a ∧ DGet H2 a y o ∧ Q (.bl (!o.isSome)) H2 := rfl
theorem tMeth_ {C : Addr} {m : Str} {sp : Sp} {dvs : List V} {E : XK} : tMeth C m sp dvs E te t σ H Q = te σ H fun x H1 => ∃ a dx fs, x = .ref a ∧ H1 a = some (.ins C dx fs) ∧ fs.lookup m = none ∧ t σ H1 fun vs H2 => sp (x :: (vs ++ dvs)) H2 Q E := rfl
theorem rSortedS_ {vs : List V} : rSortedS K vs H Q = ∃ (a : Addr) (xs : List Str), vs = [V.ref a] ∧ SqL K H a (xs.map V.str) ∧ xs.length < 64 ∧ ∀ (ys : List Str) (p : Addr), ys.Perm xs → sortedS ys = true → H p = none → Q (.ref p) (upd H p (.lst (ys.map V.str))) := rfl
def tMethKw (C : Addr) (m : Str) (n : Nat) (sp : Sp) (E : XK) (ta : TE) (tk : TA) : TE := fun σ H Q => ta σ H fun x H1 => ∃ a dx fs, x = .ref a ∧ H1 a = some (.ins C dx fs) ∧ fs.lookup m = none ∧ tk σ H1 fun zs H2 => zs.length = n ∧ sp (x :: zs) H2 Q E
theorem tMethKw_ {C : Addr} {m : Str} {n : Nat} {sp : Sp} {E : XK} {tk : TA} : tMethKw C m n sp E te tk σ H Q = te σ H fun x H1 => ∃ a dx fs, x = .ref a ∧ H1 a = some (.ins C dx fs) ∧ fs.lookup m = none ∧ tk σ H1 fun zs H2 => zs.length = n ∧ sp (x :: zs) H2 Q E := rfl
end
/-- a for over a tuple, by an invariant -/
theorem for_t {K : PySem.W.Frag} {a : Addr} {xs : List V} {g : TG} {tb : TS} {D : Ends} {σ : L2.St} {H : Hp} (Pv : Nat → L2.St → Hp → Prop) (h0 : Pv 0 σ H) (hl : ∀ i σ H, i ≤ xs.length → Pv i σ H → SqT K H a xs)
    (hs : ∀ i x σ H, xs[i]? = some x → Pv i σ H → g x σ H fun σ2 H2 => tb { D with nx := Pv (i + 1), ct := Pv (i + 1), bk := D.nx } σ2 H2) (hd : ∀ σ H, Pv xs.length σ H → D.nx σ H) : tFor (fun _ H R => R (Itt K a) H) g tb D σ H :=
  for_it walk_tup Pv h0 hl (fun i x σ H H' hi hp hy => by
    obtain ⟨rfl, hx⟩ := hy
    exact hs i x σ _ hx hp) hd
theorem tFor_enumL {K : PySem.W.Frag} {ta : TA} {g : TG} {tb : TS} {D : Ends} {σ : L2.St} {H : Hp} : tFor (iEnum K ta) g tb D σ H = ta σ H fun vs H1 => ∃ a xs, vs = [.ref a] ∧ SqL K H1 a xs ∧ tFor (fun _ H R => R (Ite K a) H) g tb D σ H1 := by
  unfold tFor iEnum
  rfl
/-- a for over enumerate(list), by an invariant -/
theorem for_enumL {K : PySem.W.Frag} {a : Addr} {xs : List V} {g : TG} {tb : TS} {D : Ends} {σ : L2.St} {H : Hp} (Pv : Nat → L2.St → Hp → Prop) (h0 : Pv 0 σ H) (hl : ∀ i σ H, i ≤ xs.length → Pv i σ H → SqL K H a xs)
    (hs : ∀ i x σ H N, xs[i]? = some x → Pv i σ H → H N = none → g (.ref N) σ (upd H N (.tup [.int (i : Nat), x])) fun σ2 H2 => tb { D with nx := Pv (i + 1), ct := Pv (i + 1), bk := D.nx } σ2 H2) (hd : ∀ σ H, Pv xs.length σ H → D.nx σ H) :
    tFor (fun _ H R => R (Ite K a) H) g tb D σ H := for_it walk_enum Pv h0 hl (fun i x σ H H' hi hp hy => by
      obtain ⟨N, y, z, rfl, hN, rfl, e, hx⟩ := hy
      cases e
      exact hs i z σ H N hx hp hN) hd
/-- x not in a list, within a comprehension -/
theorem op_notIn_seqK {X : Cx} {K : PySem.W.Frag} (hK : X.K = K) : OpR X (compareOp .NotIn) (rIn K true) := by
  subst hK
  exact op_notIn_seq
/-- the name is one of the comprehension's own -/
theorem sw_false {elt : Expr} {gs : List Comprehension} {scope : Scope} {pos py : Pos} {y : Str} {l : Nat} {env : Env}
    (ha : (scope.names.any fun (n, k) => n == y && (k == .local || k == .cell)) = true) : swapsWith (.ListComp elt gs scope pos) (some (.Name y py)) l env = pure false := by
  unfold swapsWith
  simp only [ha]
  simp
section
variable {X : Cx} {CX : CXT} {k : Nat} {f C : Addr} {fd : FuncData} {ps ks : List Str} {sp : Sp} {E : XK} {m : Str} {o : Expr} {apos pos : Pos} {kws : List Keyword} {tk : TA} {ta : TE}
/-- the keywords' names the other way round -/
theorem kbn1R {K : PySem.W.Frag} {x qual : Str} {params : Arguments} {body : List Stmt} {scope : Scope} {f : Addr} {fd : FuncData} {ps : List Str} (F : FunD K x qual params body scope [] [] f fd) (ks : List Str)
    (h : ∀ (kV doc pm : Value) (an : Option Addr) (cdv ct : Value) (u : Value) (ws : List Value), ws.length = ks.length → bindArgs (PySem.W.fnOf x qual params body scope .none kV doc pm an cdv ct) ⟨[u], ks.zip ws⟩ = pure (ps.zip (u :: ws.reverse))) :
    KBn K fd ps 1 ks (fun us ws => us ++ ws.reverse) (fun vs zs => vs ++ zs.reverse) := by
  obtain ⟨oc, od, dV, kV, doc, pm, an, cdv, ct, sl, e, lk, hcd, hD, hK⟩ := F.ex
  rcases hD with ⟨_, e2⟩ | ⟨z, _⟩
  · subst e2 e
    refine ⟨fun s us ws Z l1 l2 => ?_, fun r r' => r.append (Rv.vals_rev r')⟩
    obtain ⟨u, rfl⟩ : ∃ u, us = [u] := by
      match us, l1 with
      | [u], _ => exact ⟨u, rfl⟩
    exact .of_eq (h kV doc pm an cdv ct u ws l2)
  · exact absurd rfl z
/-- o.m(k = v, ..) -/
theorem pe_methKw {pl : Sem Bool} (he : PE X o ta) (c : Cls X.K C) (hm : Meth X.K C m f) (F : FnOk X.prog X.w X.K X.mg X.base CX k f fd ps sp) (hr : Room k X.A) (hb : KBn X.K fd ps 1 ks (fun us ws => us ++ ws) (fun vs zs => vs ++ zs)) (hx : Passes CX X E) (hkw : PK X kws tk)
    (hall : (backToKw pos (keywordEach kws X.env)).all (·.1.isSome) = true := by rfl) (hks : (backToKw pos (keywordEach kws X.env)).filterMap (·.1) = ks := by rfl)
    (hpl : ((backTo pos (starEach [] X.env)).any (·.1) || (backToKw pos (keywordEach kws X.env)).any (·.1.isNone)) = false := by rfl)
    (ht : eval (.Call (.Attribute o m apos) [] kws pos) X.env = (do
      let ov ← eval o X.env
      standAt apos.atName
      let (f, first) ← holding [ov] (getMethod ov m pl)
      callWith pos f first (backTo pos (starEach [] X.env)) (backToKw pos (keywordEach kws X.env))) := by rfl) :
    PE X (.Call (.Attribute o m apos) [] kws pos) (tMethKw C m ks.length sp E ta tk) := by
  refine ⟨fun pins s σ H Q I h => ?_⟩
  refine PySem.W.methodCall_KW (pl := pl) (thn (he.run pins s σ H _ I h) fun u s1 ⟨x, H1, I1, rx, a, dx, fs, ex, ea, l, q⟩ => ?_) ht
  subst ex
  obtain rfl : u = Value.ref a := rx
  refine getmeth_ok I1 ea c hm l ?_
  refine PySem.W.callWith_KW0 (first := [.ref a]) (h₀ := X.base) I1.ok.mod.kin hm.kp hall ?_ hpl
  refine thn (hkw.run pos pins s1 σ H1 _ I1 q) ?_
  rintro ws s2 ⟨zs, H2, I2, rz, l2, q2⟩
  refine ⟨I2.kIn, ?_⟩
  rw [hks]
  exact run_fnN (us := [.ref a]) (vs := [.ref a]) F hr hb hx I2 (.cons rfl .nil) rz rfl l2 q2
end
end Sy

set_option Elab.async false
set_option linter.all false
set_option maxRecDepth 100000
set_option maxHeartbeats 4000000
namespace K39S
open PySem PySem.Spec PyProof.Rows L2 Rd Dt Dq Pk Ln En Sx Sy
local macro_rules | `(tactic| walk_at "rd") => `(tactic| try simp only [↓Sy.tTupP_, ↓Sy.rTupP_, ↓Sy.rCatP_, ↓Sy.rSlP_, ↓Sy.rDictT_, ↓Sy.tDGet_, ↓Sy.tDGet1_, ↓Sy.tDIn_, ↓Sy.tDNotIn_, ↓Sy.tMeth_, ↓Sy.tMethKw_, ↓Sy.rSortedS_, ↓Sx.rIsT_, ↓En.tFor_enumT, ↓Sy.tFor_enumL, ↓Rv.tMakeKw_, ↓Prp.tProp_, ↓Lo.tBits_, ↓Lo.tJs_n, ↓Lo.tJs_c, ↓Lo.tFmt_, ↓Lo.gFld_, ↓Lo.tMake_, ↓Lo.rOwn_, ↓Rg.tFor_range3, ↓Rg.tLc_range3, ↓Rg.tLstC_, ↓Rg.tLc_rngV, ↓Le.rNeLE_, ↓Le.rEqLE_, ↓Ls.tLc_str, ↓Ls.sDPut_, ↓Rl.rReprL_, ↓Rl.tCallKS_, ↓Ob.tFld_, ↓Ob.sFld_, ↓tVar_, ↓tC_, ↓tM1, ↓tDNewK_, ↓tOp_, ↓tUn_, ↓rI_, ↓rI0_, ↓rU_, ↓eq_ii, ↓ne_ii, ↓eq_ss, ↓ne_ss, ↓eq_bb, ↓ne_bb, ↓tAndV_, ↓tOrV_, ↓tNotV_, ↓tIf_, ↓tTest_, ↓tB_, ↓tAnd_, ↓tOr_, ↓tNot_, ↓tChain_, ↓tNil_, ↓tCons_, ↓tTup_, ↓tLst_, ↓tCB_, ↓tCall_, ↓tSeq_, ↓tNext_, ↓tRet_, ↓tRetN_, ↓tDrop_, ↓tBreak_, ↓tNever_, ↓tIfS_, ↓tAsg_, ↓gName_, ↓gTup_, ↓gCons_, ↓gNil_, ↓gSub_, ↓tPar_, ↓tPar3_, ↓tSl_, ↓tNoPart_, ↓tPart_, ↓tBM_, ↓tFor_range1, ↓tFor_range2, ↓tFor_list, ↓tFor_tup, L2.start, List.headD_cons, List.headD_nil, List.tail_cons, List.map_cons, List.map_nil, List.length_cons, List.length_nil, List.replicate, List.append_nil, List.nil_append, List.cons_append, List.getElem?_cons_zero, List.getElem?_cons_succ, List.set_cons_zero, List.set_cons_succ, Option.some.injEq, V.int.injEq, V.bl.injEq, V.str.injEq, V.ref.injEq, exists_eq_left, exists_eq_left', exists_eq_right, exists_eq, exists_and_left, and_true, true_and, decide_eq_true_eq, Nat.reduceAdd, Nat.reduceSub, Nat.add_zero, Nat.zero_add, List.cons.injEq, Bool.not_eq_true', decide_eq_false_iff_not, eq_self, reduceCtorEq, Bool.false_eq_true, if_true, if_false, ite_true, ite_false, and_self, ↓tLc_range1, ↓tLc_range2, ↓tLc_list, ↓tLc_tup, ↓tYes_, wipe0, wipe1, ↓tCallS_, ↓rIxL_, ↓rIxT_, ↓rSlL_, ↓rCat_, ↓rSetL_, ↓rRep_, ↓rGcd_, ↓tCallK_, ↓gUnl_, ↓tRaise_, decide_true, decide_false, not_true_eq_false, not_false_eq_true, false_and, or_false, false_or, and_false, and_assoc, exists_const, forall_const, forall_eq'])
section
variable {P : Program} {w : World} {K : PySem.W.Frag} {mg : Str → Option Value} {base : Heap}
/-! ### values -/
def spWhole : Sp := fun vs H Q _ => ∃ v : Int, vs = [.int v] ∧ Q (.bl true) H
theorem sc_whole : FnScope ["value"] ["value"] (defScope (top 17)) := ⟨rfl, rfl, rfl, by decide +kernel, rfl, by decide +kernel, by decide +kernel⟩
theorem ok_whole {f : Addr} {fd : FuncData} (T : Tx mg) (F : FD K "is_whole" (top 17) f fd) : FnOk P w K mg base CX0 1 f fd ["value"] spWhole := by
  refine F.ok sc_whole (fun vs H Q E h => ?_) (fun cdv A outer s H vs Q E hr h => ?_)
  · obtain ⟨x, rfl, _⟩ := h
    rfl
  · obtain ⟨x, rfl, k⟩ := h
    refine ⟨_, (pss_one (ps_ret (pe_and (pe_callB call_isi (by rfl) T.b_isinstance (by decide +kernel) (pa_cons (pv 0) (pa_cons (pe_bltn (v := .ty "int") rfl T.b_int (by decide +kernel) rfl) pa_nil))) (pe_one (pe_not (pe_callB call_isi (by rfl) T.b_isinstance (by decide +kernel) (pa_cons (pv 0) (pa_cons (pe_bltn (v := .ty "bool") rfl T.b_bool (by decide +kernel) rfl) pa_nil)))))))), ?_⟩
    exact ⟨_, rfl, _, _, .type "int", .type "int", true, rfl, .ty _, .base (.int _), rfl, _, rfl, _, rfl, _, _, .type "int", .type "bool", false, rfl, .ty _, .base (.int _), rfl, _, rfl, k⟩
def spBetween : Sp := fun vs H Q _ => ∃ v l h : Int, vs = [.int v, .int l, .int h] ∧ Q (.bl (decide (l ≤ v) && decide (v ≤ h))) H
theorem sc_between : FnScope ["value", "low", "high"] ["value", "low", "high"] (defScope (top 18)) := ⟨rfl, rfl, rfl, by decide +kernel, rfl, by decide +kernel, by decide +kernel⟩
theorem ok_between {f : Addr} {fd : FuncData} (T : Tx mg) (F : FD K "is_between" (top 18) f fd) {f1 : Addr} {fd1 : FuncData} (C1 : Cal P w K mg base CX0 1 "is_whole" ["value"] spWhole f1 fd1) : FnOk P w K mg base CX0 2 f fd ["value", "low", "high"] spBetween := by
  obtain ⟨gis_whole, kis_whole, bis_whole, Fis_whole⟩ := C1
  refine F.ok sc_between (fun vs H Q E h => ?_) (fun cdv A outer s H vs Q E hr h => ?_)
  · obtain ⟨_, _, _, rfl, _⟩ := h
    rfl
  · obtain ⟨v, l, h, rfl, k⟩ := h
    have nd := sc_between.nd
    refine ⟨_, (pss_one (ps_ret (pe_and (pe_call Fis_whole (hr.mono (by omega)) rfl gis_whole kis_whole bis_whole .nil pass0 (pa_cons (pv 0) pa_nil)) (pe_and (pe_cmpR op_le (pv 1) (pv 0) (nomark _)) (pe_one (pe_cmpR op_le (pv 0) (pv 2) (nomark _))))))), ?_⟩
    walk_at "rd"
    refine ⟨v, rfl, ?_⟩
    walk_at "rd"
    by_cases c : l ≤ v
    · rw [decide_eq_true c] at k
      rw [if_pos c]
      exact k
    · rw [decide_eq_false c] at k
      rw [if_neg c]
      exact k
def spPlace : Sp := fun vs H Q _ => ∃ v : Int, vs = [.int v] ∧ Q (.bl (decide (0 ≤ v) && decide (v ≤ 999))) H
theorem sc_place : FnScope ["value"] ["value"] (defScope (top 19)) := ⟨rfl, rfl, rfl, by decide +kernel, rfl, by decide +kernel, by decide +kernel⟩
theorem ok_place {f : Addr} {fd : FuncData} (T : Tx mg) (F : FD K "is_place" (top 19) f fd) {f1 : Addr} {fd1 : FuncData} (C1 : Cal P w K mg base CX0 2 "is_between" ["value", "low", "high"] spBetween f1 fd1) : FnOk P w K mg base CX0 3 f fd ["value"] spPlace := by
  obtain ⟨gis_between, kis_between, bis_between, Fis_between⟩ := C1
  refine F.ok sc_place (fun vs H Q E h => ?_) (fun cdv A outer s H vs Q E hr h => ?_)
  · obtain ⟨_, rfl, _⟩ := h
    rfl
  · obtain ⟨v, rfl, k⟩ := h
    have nd := sc_place.nd
    obtain ⟨_, hMP⟩ := T.mp
    refine ⟨_, (pss_one (ps_ret (pe_call Fis_between (hr.mono (by omega)) rfl gis_between kis_between bis_between .nil pass0 (pa_cons (pv 0) (pa_cons pe_int (pa_cons (pe_glob (v := .int 999) rfl hMP ⟨_, rfl⟩) pa_nil)))))), ?_⟩
    walk_at "rd"
    exact ⟨v, 0, 999, rfl, k⟩
theorem let_has {c : Nat} (h1 : 97 ≤ c) (h2 : c ≤ 122) : c ∈ abc.cps.toList := by
  have e : abc.cps.toList = [97, 98, 99, 100, 101, 102, 103, 104, 105, 106, 107, 108, 109, 110, 111, 112, 113, 114, 115, 116, 117, 118, 119, 120, 121, 122] := by decide +kernel
  rw [e]
  simp only [List.mem_cons, List.not_mem_nil, or_false]
  omega
def spLetter : Sp := fun vs H Q _ => ∃ c : Nat, vs = [.str (L1 c)] ∧ 97 ≤ c ∧ c ≤ 122 ∧ Q (.bl true) H
theorem sc_letter : FnScope ["value"] ["value"] (defScope (top 20)) := ⟨rfl, rfl, rfl, by decide +kernel, rfl, by decide +kernel, by decide +kernel⟩
theorem ok_letter {f : Addr} {fd : FuncData} (T : Tx mg) (F : FD K "is_letter" (top 20) f fd) : FnOk P w K mg base CX0 1 f fd ["value"] spLetter := by
  refine F.ok sc_letter (fun vs H Q E h => ?_) (fun cdv A outer s H vs Q E hr h => ?_)
  · obtain ⟨_, rfl, _⟩ := h
    rfl
  · obtain ⟨c, rfl, h1, h2, k⟩ := h
    have nd := sc_letter.nd
    obtain ⟨_, hLET⟩ := T.lets
    refine ⟨_, (pss_one (ps_ret (pe_and (pe_callB call_isi (by rfl) T.b_isinstance (by decide +kernel) (pa_cons (pv 0) (pa_cons (pe_bltn (v := .ty "str") rfl T.b_str (by decide +kernel) rfl) pa_nil))) (pe_and (pe_cmpR op_eq (pe_callB call_len_str (by rfl) T.b_len PySem.boot_len (pa_cons (pv 0) pa_nil)) pe_int (nomark _)) (pe_one (pe_cmpR op_in_sign (pv 0) (pe_glob (v := .str abc) rfl hLET ⟨_, rfl⟩) rfl)))))), ?_⟩
    walk_at "rd"
    refine ⟨_, _, .type "str", .type "str", true, rfl, .ty _, .base (.str _), rfl, _, rfl, ?_⟩
    rw [if_pos rfl]
    have e1 : (L1 c).length = 1 := rfl
    have e2 : ((L1 c).length : Int) = 1 := by rw [e1]; rfl
    refine ⟨by rw [e1]; decide, ?_⟩
    rw [if_pos e2]
    refine ⟨c, rfl, ?_⟩
    rw [show decide (c ∈ abc.cps.toList) = true from decide_eq_true (let_has h1 h2)]
    exact k
def spPair (K : PySem.W.Frag) : Sp := fun vs H Q _ => ∃ (a : Addr) (x y : V), vs = [.ref a] ∧ SqT K H a [x, y] ∧ Q (.bl true) H
theorem sc_pair : FnScope ["value"] ["value"] (defScope (top 21)) := ⟨rfl, rfl, rfl, by decide +kernel, rfl, by decide +kernel, by decide +kernel⟩
theorem ok_pair {f : Addr} {fd : FuncData} (T : Tx mg) (F : FD K "is_pair" (top 21) f fd) : FnOk P w K mg base CX0 1 f fd ["value"] (spPair K) := by
  refine F.ok sc_pair (fun vs H Q E h => ?_) (fun cdv A outer s H vs Q E hr h => ?_)
  · obtain ⟨_, _, _, rfl, _⟩ := h
    rfl
  · obtain ⟨a, x, y, rfl, ha, k⟩ := h
    have nd := sc_pair.nd
    refine ⟨_, (pss_one (ps_ret (pe_and (pe_callB (Sx.call_isT (K := K) rfl) (by rfl) T.b_isinstance (by decide +kernel) (pa_cons (pv 0) (pa_cons (pe_bltn (v := .ty "tuple") rfl T.b_tuple (by decide +kernel) rfl) pa_nil))) (pe_one (pe_cmpR op_eq (pe_callB call_len_seq (by rfl) T.b_len PySem.boot_len (pa_cons (pv 0) pa_nil)) pe_int (nomark _)))))), ?_⟩
    walk_at "rd"
    exact ⟨_, ha, _, .inr ha, k⟩
end
end K39S

set_option Elab.async false
set_option linter.all false
set_option maxRecDepth 100000
set_option maxHeartbeats 4000000
namespace K39S
open PySem PySem.Spec PyProof.Rows L2 Rd Dt Dq Pk Ln En Sx Sy
local macro_rules | `(tactic| walk_at "rd") => `(tactic| try simp only [↓Sy.tTupP_, ↓Sy.rTupP_, ↓Sy.rCatP_, ↓Sy.rSlP_, ↓Sy.rDictT_, ↓Sy.tDGet_, ↓Sy.tDGet1_, ↓Sy.tDIn_, ↓Sy.tDNotIn_, ↓Sy.tMeth_, ↓Sy.tMethKw_, ↓Sy.rSortedS_, ↓Sx.rIsT_, ↓En.tFor_enumT, ↓Sy.tFor_enumL, ↓Rv.tMakeKw_, ↓Prp.tProp_, ↓Lo.tBits_, ↓Lo.tJs_n, ↓Lo.tJs_c, ↓Lo.tFmt_, ↓Lo.gFld_, ↓Lo.tMake_, ↓Lo.rOwn_, ↓Rg.tFor_range3, ↓Rg.tLc_range3, ↓Rg.tLstC_, ↓Rg.tLc_rngV, ↓Le.rNeLE_, ↓Le.rEqLE_, ↓Ls.tLc_str, ↓Ls.sDPut_, ↓Rl.rReprL_, ↓Rl.tCallKS_, ↓Ob.tFld_, ↓Ob.sFld_, ↓tVar_, ↓tC_, ↓tM1, ↓tDNewK_, ↓tOp_, ↓tUn_, ↓rI_, ↓rI0_, ↓rU_, ↓eq_ii, ↓ne_ii, ↓eq_ss, ↓ne_ss, ↓eq_bb, ↓ne_bb, ↓tAndV_, ↓tOrV_, ↓tNotV_, ↓tIf_, ↓tTest_, ↓tB_, ↓tAnd_, ↓tOr_, ↓tNot_, ↓tChain_, ↓tNil_, ↓tCons_, ↓tTup_, ↓tLst_, ↓tCB_, ↓tCall_, ↓tSeq_, ↓tNext_, ↓tRet_, ↓tRetN_, ↓tDrop_, ↓tBreak_, ↓tNever_, ↓tIfS_, ↓tAsg_, ↓gName_, ↓gTup_, ↓gCons_, ↓gNil_, ↓gSub_, ↓tPar_, ↓tPar3_, ↓tSl_, ↓tNoPart_, ↓tPart_, ↓tBM_, ↓tFor_range1, ↓tFor_range2, ↓tFor_list, ↓tFor_tup, L2.start, List.headD_cons, List.headD_nil, List.tail_cons, List.map_cons, List.map_nil, List.length_cons, List.length_nil, List.replicate, List.append_nil, List.nil_append, List.cons_append, List.getElem?_cons_zero, List.getElem?_cons_succ, List.set_cons_zero, List.set_cons_succ, Option.some.injEq, V.int.injEq, V.bl.injEq, V.str.injEq, V.ref.injEq, exists_eq_left, exists_eq_left', exists_eq_right, exists_eq, exists_and_left, and_true, true_and, decide_eq_true_eq, Nat.reduceAdd, Nat.reduceSub, Nat.add_zero, Nat.zero_add, List.cons.injEq, Bool.not_eq_true', decide_eq_false_iff_not, eq_self, reduceCtorEq, Bool.false_eq_true, if_true, if_false, ite_true, ite_false, and_self, ↓tLc_range1, ↓tLc_range2, ↓tLc_list, ↓tLc_tup, ↓tYes_, wipe0, wipe1, ↓tCallS_, ↓rIxL_, ↓rIxT_, ↓rSlL_, ↓rCat_, ↓rSetL_, ↓rRep_, ↓rGcd_, ↓tCallK_, ↓gUnl_, ↓tRaise_, decide_true, decide_false, not_true_eq_false, not_false_eq_true, false_and, or_false, false_or, and_false, and_assoc, exists_const, forall_const, forall_eq'])
section
variable {P : Program} {w : World} {K : PySem.W.Frag} {mg : Str → Option Value} {base : Heap}
/-! ### names and cells looked at -/
theorem asc_next {ns : List (Nat × Nat)} (h : Asc ns) {i : Nat} {a b : Nat × Nat} (e1 : ns[i]? = some a) (e2 : ns[i + 1]? = some b) : a.1 < b.1 := by
  obtain ⟨h1, rfl⟩ := List.getElem?_eq_some_iff.mp e1
  obtain ⟨h2, rfl⟩ := List.getElem?_eq_some_iff.mp e2
  exact List.pairwise_iff_getElem.mp h i (i + 1) h1 h2 (Nat.lt_succ_self i)
theorem lt_L1 {c d : Nat} (h : c < d) : (L1 c).cps.toList < (L1 d).cps.toList := by
  show [c] < [d]
  exact List.cons_lt_cons_iff.mpr (.inl h)
theorem map_at {α β : Type} {f : α → β} {l : List α} {i : Nat} {y : β} (h : (l.map f)[i]? = some y) : ∃ x, l[i]? = some x ∧ y = f x := by
  rw [List.getElem?_map] at h
  obtain ⟨x, h1, h2⟩ := Option.map_eq_some_iff.mp h
  exact ⟨x, h1, h2.symm⟩
def spNames (K : PySem.W.Frag) : Sp := fun vs H Q _ => ∃ (a : Addr) (ns : List (Nat × Nat)), vs = [.ref a] ∧ PrsAt K H a (ns.map nk) ∧ NmOk ns ∧ Q (.bl true) H
def nmP (H0 : Hp) (a : Addr) (ns : List (Nat × Nat)) (i : Nat) : L2.St → Hp → Prop := fun σ H => H = H0 ∧ ∃ (x : Option V) (l : Str), (∀ n, ns[i]? = some n → l.cps.toList < (L1 n.1).cps.toList) ∧ σ = [some (.ref a), some (.str l), x]
theorem sc_nm : FnScope ["value", "last", "pair"] ["value"] (defScope (top 23)) := ⟨rfl, rfl, rfl, by decide +kernel, rfl, by decide +kernel, by decide +kernel⟩
theorem ok_nm {f : Addr} {fd : FuncData} (T : Tx mg) (F : FD K "are_name_pairs" (top 23) f fd) {f1 f2 f3 : Addr} {fd1 fd2 fd3 : FuncData} (C1 : Cal P w K mg base CX0 1 "is_pair" ["value"] (spPair K) f1 fd1) (C2 : Cal P w K mg base CX0 1 "is_letter" ["value"] spLetter f2 fd2)
    (C3 : Cal P w K mg base CX0 3 "is_place" ["value"] spPlace f3 fd3) : FnOk P w K mg base CX0 4 f fd ["value"] (spNames K) := by
  obtain ⟨gis_pair, kis_pair, bis_pair, Fis_pair⟩ := C1
  obtain ⟨gis_letter, kis_letter, bis_letter, Fis_letter⟩ := C2
  obtain ⟨gis_place, kis_place, bis_place, Fis_place⟩ := C3
  refine F.ok sc_nm (fun vs H Q E h => ?_) (fun cdv A outer s H vs Q E hr h => ?_)
  · obtain ⟨_, _, rfl, _⟩ := h
    rfl
  · obtain ⟨a, ns, rfl, ⟨xs, ha, hp⟩, ok, k⟩ := h
    have nd := sc_nm.nd
    obtain ⟨_, hMN⟩ := T.mn
    have hl := hp.len
    rw [List.length_map] at hl
    refine ⟨_, (pss_cons (ps_if (PW.pt (pw_or (pt_not (pt_val (pe_callB (Sx.call_isT (K := K) rfl) (by rfl) T.b_isinstance (by decide +kernel) (pa_cons (pv 0) (pa_cons (pe_bltn (v := .ty "tuple") rfl T.b_tuple (by decide +kernel) rfl) pa_nil))))) (pw_or1 (pt_not (pt_chain op_le op_le pe_int (pe_callB call_len_seq (by rfl) T.b_len PySem.boot_len (pa_cons (pv 0) pa_nil)) (pe_glob (v := .int 4) rfl hMN ⟨_, rfl⟩)))))) (pss_one (ps_ret pe_bl)) pss_nil)
        (pss_cons (ps_set (i := 1) nd rfl (Or.inl rfl) pe_str)
        (pss_cons (ps_for (passes_of rfl) rfl (pi_tup (pv 0)) (pg_name (i := 2) nd rfl (Or.inl rfl)) (pss_cons (ps_if (PW.pt (pw_or (pt_not (pt_val (pe_call Fis_pair (hr.mono (by omega)) rfl gis_pair kis_pair bis_pair .nil pass0 (pa_cons (pv 2) pa_nil)))) (pw_or (pt_not (pt_val (pe_call Fis_letter (hr.mono (by omega)) rfl gis_letter kis_letter bis_letter .nil pass0 (pa_cons (pe_ix (r := rIxT K) ix_tup (pv 2) pe_int (fun _ _ => rfl)) pa_nil)))) (pw_or (pt_not (pt_val (pe_call Fis_place (hr.mono (by omega)) rfl gis_place kis_place bis_place .nil pass0 (pa_cons (pe_ix (r := rIxT K) ix_tup (pv 2) pe_int (fun _ _ => rfl)) pa_nil)))) (pw_or1 (pt_cmpR op_le_str (pe_ix (r := rIxT K) ix_tup (pv 2) pe_int (fun _ _ => rfl)) (pv 1) (nomark _))))))) (pss_one (ps_ret pe_bl)) pss_nil)
        (pss_one (ps_set (i := 1) nd rfl (Or.inl rfl) (pe_ix (r := rIxT K) ix_tup (pv 2) pe_int (fun _ _ => rfl))))))
        (pss_one (ps_ret pe_bl))))), ?_⟩
    refine sq fun U hU => ?_
    walk_at "rd"
    refine ⟨_, ha.sqt, _, .inr ha.sqt, ?_⟩
    have o1 := ok.1
    have o2 := ok.2.1
    rw [if_pos (by omega), if_neg (by omega)]
    refine hU _ _ ?_
    clear hU
    refine sq fun U hU => ?_
    walk_at "rd"
    refine hU _ _ ?_
    clear hU
    refine sq fun U hU => ?_
    walk_at "rd"
    refine ⟨⟨_, ha.sqt⟩, for_t (K := K) (a := a) (xs := xs) (nmP H a ns) ⟨rfl, none, "", fun n _ => List.nil_lt_cons _ _, rfl⟩ (fun i σ H' _ h => by rw [h.1]; exact ha.sqt) ?_ ?_⟩
    · rintro i x σ H' hi ⟨rfl, x0, l, hlt, rfl⟩
      obtain ⟨kv, b, hkv, rfl, hb⟩ := hp.atV hi
      obtain ⟨n, hn, rfl⟩ := map_at hkv
      obtain ⟨b1, b2, b3⟩ := ok.2.2.1 n (List.mem_of_getElem? hn)
      have hb : SqT K H' b [.str (L1 n.1), .int n.2] := hb
      have lt1 := hlt n hn
      walk_at "rd"
      refine ⟨b, _, _, rfl, hb, true, rfl, ?_⟩
      rw [if_neg (by decide)]
      refine ⟨_, hb, _, rfl, n.1, rfl, b1, b2, true, rfl, ?_⟩
      rw [if_neg (by decide)]
      refine ⟨_, hb, _, rfl, n.2, rfl, true, by rw [decide_eq_true (show (0 : Int) ≤ n.2 by omega), decide_eq_true (show (n.2 : Int) ≤ 999 by omega)]; rfl, ?_⟩
      rw [if_neg (by decide)]
      refine ⟨_, hb, _, rfl, _, rfl, ?_⟩
      rw [if_neg (fun z => z lt1)]
      exact ⟨_, hb, _, rfl, rfl, _, L1 n.1, fun m hm => lt_L1 (asc_next ok.2.2.2 hn hm), rfl⟩
    · rintro σ H' ⟨rfl, x0, l, hlt, rfl⟩
      refine hU _ _ ?_
      walk_at "rd"
      exact k
def spCells (K : PySem.W.Frag) : Sp := fun vs H Q _ => ∃ (a : Addr) (cs : List (Nat × Nat)), vs = [.ref a] ∧ PrsAt K H a (cs.map ck) ∧ ClOk cs ∧ ∀ H', Same H H' → Q .non H'
def clP (H0 : Hp) (a : Addr) (cs : List (Nat × Nat)) (i : Nat) : L2.St → Hp → Prop := fun σ H => Same H0 H ∧ ∃ (l : Nat) (x y : Option V), (∀ c, cs[i]? = some c → l < c.1) ∧ σ = [some (.ref a), some (.int l), x, y]
theorem sc_cl : FnScope ["value", "last", "index", "pair"] ["value"] (defScope (top 24)) := ⟨rfl, rfl, rfl, by decide +kernel, rfl, by decide +kernel, by decide +kernel⟩
theorem ok_cl {f : Addr} {fd : FuncData} (T : Tx mg) (F : FD K "check_cells" (top 24) f fd) {f1 f3 : Addr} {fd1 fd3 : FuncData} (C1 : Cal P w K mg base CX0 1 "is_pair" ["value"] (spPair K) f1 fd1)
    (C3 : Cal P w K mg base CX0 3 "is_place" ["value"] spPlace f3 fd3) : FnOk P w K mg base CX0 4 f fd ["value"] (spCells K) := by
  obtain ⟨gis_pair, kis_pair, bis_pair, Fis_pair⟩ := C1
  obtain ⟨gis_place, kis_place, bis_place, Fis_place⟩ := C3
  refine F.ok sc_cl (fun vs H Q E h => ?_) (fun cdv A outer s H vs Q E hr h => ?_)
  · obtain ⟨_, _, rfl, _⟩ := h
    rfl
  · obtain ⟨a, cs, rfl, ⟨xs, ha, hp⟩, ok, k⟩ := h
    have nd := sc_cl.nd
    obtain ⟨_, hMC⟩ := T.mc
    obtain ⟨_, hEND⟩ := T.en
    have hl := hp.len
    rw [List.length_map] at hl
    refine ⟨_, (pss_cons (ps_if (pt_not (pt_val (pe_callB (Sx.call_isT (K := K) rfl) (by rfl) T.b_isinstance (by decide +kernel) (pa_cons (pv 0) (pa_cons (pe_bltn (v := .ty "tuple") rfl T.b_tuple (by decide +kernel) rfl) pa_nil))))) (pss_one ps_never) pss_nil)
        (pss_cons (ps_set (i := 1) nd rfl (Or.inl rfl) (pe_glob (v := .int 0) rfl hEND ⟨_, rfl⟩))
        (pss_one (ps_for (passes_of rfl) rfl (En.pi_enumT (K := K) rfl rfl T.b_enumerate (pa_cons (pv 0) pa_nil)) (pg_tup rfl (pgs_cons (pg_name (i := 2) nd rfl (Or.inl rfl) (hf := Or.inr rfl)) (pgs_cons (pg_name (i := 3) nd rfl (Or.inl rfl) (hf := Or.inr rfl)) pgs_nil))) (pss_cons (ps_if (PW.pt (pw_or (pt_cmpR op_eq (pv 2) (pe_glob (v := .int 500) rfl hMC ⟨_, rfl⟩) (nomark _)) (pw_or (pt_not (pt_val (pe_call Fis_pair (hr.mono (by omega)) rfl gis_pair kis_pair bis_pair .nil pass0 (pa_cons (pv 3) pa_nil)))) (pw_or (pt_not (pt_val (pe_call Fis_place (hr.mono (by omega)) rfl gis_place kis_place bis_place .nil pass0 (pa_cons (pe_ix (r := rIxT K) ix_tup (pv 3) pe_int (fun _ _ => rfl)) pa_nil)))) (pw_or1 (pt_not (pt_val (pe_call Fis_place (hr.mono (by omega)) rfl gis_place kis_place bis_place .nil pass0 (pa_cons (pe_ix (r := rIxT K) ix_tup (pv 3) pe_int (fun _ _ => rfl)) pa_nil))))))))) (pss_one ps_never) pss_nil)
        (pss_cons (ps_if (pt_cmpR op_le (pe_ix (r := rIxT K) ix_tup (pv 3) pe_int (fun _ _ => rfl)) (pv 1) (nomark _)) (pss_one ps_never) pss_nil)
        (pss_one (ps_set (i := 1) nd rfl (Or.inl rfl) (pe_ix (r := rIxT K) ix_tup (pv 3) pe_int (fun _ _ => rfl)))))))))), ?_⟩
    refine sq fun U hU => ?_
    walk_at "rd"
    refine ⟨_, ha.sqt, ?_⟩
    refine hU _ _ ?_
    clear hU
    refine sq fun U hU => ?_
    walk_at "rd"
    refine hU _ _ ?_
    clear hU
    walk_at "rd"
    refine ⟨_, ha.sqt, for_enumT (clP H a cs) ⟨fun _ _ e => e, 0, none, none, fun c hc => by have := ok.2.1 c (List.mem_of_getElem? hc); omega, rfl⟩ (fun i σ H' _ h => sqt_up h.1 ha.sqt) ?_ ?_⟩
    · rintro i x σ H' N hi ⟨hs, l, x1, x2, hlt, rfl⟩ hN
      obtain ⟨kv, b, hkv, rfl, hb⟩ := (hp.up hs).atV hi
      have hb2 : SqT K (upd H' N (.tup [.int (i : Nat), .ref b])) b [kV kv.1, kv.2] := sqt_up (same_new hN) hb
      have hN2 : SqT K (upd H' N (.tup [.int (i : Nat), .ref b])) N [.int (i : Nat), .ref b] := SqT.of upd_same
      have s2 : Same H (upd H' N (.tup [.int (i : Nat), .ref b])) := fun c o e => same_new hN _ _ (hs _ _ e)
      generalize upd H' N (.tup [.int (i : Nat), .ref b]) = H2 at hb2 hN2 s2 ⊢
      walk_at "rd"
      obtain ⟨n, hn, rfl⟩ := map_at hkv
      obtain ⟨b1, b2, b3⟩ := ok.2.1 n (List.mem_of_getElem? hn)
      have hb2 : SqT K H2 b [.int n.1, .int n.2] := hb2
      have lt1 := hlt n hn
      have il := (List.getElem?_eq_some_iff.mp hn).1
      have o1 := ok.1
      refine ⟨_, hN2, rfl, _, _, rfl, _, _, rfl, rfl, ?_⟩
      walk_at "rd"
      rw [if_neg (by omega)]
      refine ⟨b, _, _, rfl, hb2, true, rfl, ?_⟩
      rw [if_neg (by decide)]
      refine ⟨_, hb2, _, rfl, n.1, rfl, true, by rw [decide_eq_true (show (0 : Int) ≤ n.1 by omega), decide_eq_true (show (n.1 : Int) ≤ 999 by omega)]; rfl, ?_⟩
      rw [if_neg (by decide)]
      refine ⟨_, hb2, _, rfl, n.2, rfl, true, by rw [decide_eq_true (show (0 : Int) ≤ n.2 by omega), decide_eq_true (show (n.2 : Int) ≤ 999 by omega)]; rfl, ?_⟩
      rw [if_neg (by decide)]
      refine ⟨_, hb2, _, rfl, _, rfl, ?_⟩
      rw [if_neg (by omega)]
      exact ⟨_, hb2, _, rfl, s2, n.1, _, _, fun m hm => asc_next ok.2.2 hn hm, rfl⟩
    · rintro σ H' ⟨hs, l, x1, x2, hlt, rfl⟩
      exact k _ hs
end
end K39S

set_option Elab.async false
set_option linter.all false
set_option maxRecDepth 100000
set_option maxHeartbeats 4000000
namespace K39S
open PySem PySem.Spec PyProof.Rows L2 Rd Dt Dq Pk Ln En Sx Sy
local macro_rules | `(tactic| walk_at "rd") => `(tactic| try simp only [↓Sy.tTupP_, ↓Sy.rTupP_, ↓Sy.rCatP_, ↓Sy.rSlP_, ↓Sy.rDictT_, ↓Sy.tDGet_, ↓Sy.tDGet1_, ↓Sy.tDIn_, ↓Sy.tDNotIn_, ↓Sy.tMeth_, ↓Sy.tMethKw_, ↓Sy.rSortedS_, ↓Sx.rIsT_, ↓En.tFor_enumT, ↓Sy.tFor_enumL, ↓Rv.tMakeKw_, ↓Prp.tProp_, ↓Lo.tBits_, ↓Lo.tJs_n, ↓Lo.tJs_c, ↓Lo.tFmt_, ↓Lo.gFld_, ↓Lo.tMake_, ↓Lo.rOwn_, ↓Rg.tFor_range3, ↓Rg.tLc_range3, ↓Rg.tLstC_, ↓Rg.tLc_rngV, ↓Le.rNeLE_, ↓Le.rEqLE_, ↓Ls.tLc_str, ↓Ls.sDPut_, ↓Rl.rReprL_, ↓Rl.tCallKS_, ↓Ob.tFld_, ↓Ob.sFld_, ↓tVar_, ↓tC_, ↓tM1, ↓tDNewK_, ↓tOp_, ↓tUn_, ↓rI_, ↓rI0_, ↓rU_, ↓eq_ii, ↓ne_ii, ↓eq_ss, ↓ne_ss, ↓eq_bb, ↓ne_bb, ↓tAndV_, ↓tOrV_, ↓tNotV_, ↓tIf_, ↓tTest_, ↓tB_, ↓tAnd_, ↓tOr_, ↓tNot_, ↓tChain_, ↓tNil_, ↓tCons_, ↓tTup_, ↓tLst_, ↓tCB_, ↓tCall_, ↓tSeq_, ↓tNext_, ↓tRet_, ↓tRetN_, ↓tDrop_, ↓tBreak_, ↓tNever_, ↓tIfS_, ↓tAsg_, ↓gName_, ↓gTup_, ↓gCons_, ↓gNil_, ↓gSub_, ↓tPar_, ↓tPar3_, ↓tSl_, ↓tNoPart_, ↓tPart_, ↓tBM_, ↓tFor_range1, ↓tFor_range2, ↓tFor_list, ↓tFor_tup, L2.start, List.headD_cons, List.headD_nil, List.tail_cons, List.map_cons, List.map_nil, List.length_cons, List.length_nil, List.replicate, List.append_nil, List.nil_append, List.cons_append, List.getElem?_cons_zero, List.getElem?_cons_succ, List.set_cons_zero, List.set_cons_succ, Option.some.injEq, V.int.injEq, V.bl.injEq, V.str.injEq, V.ref.injEq, exists_eq_left, exists_eq_left', exists_eq_right, exists_eq, exists_and_left, and_true, true_and, decide_eq_true_eq, Nat.reduceAdd, Nat.reduceSub, Nat.add_zero, Nat.zero_add, List.cons.injEq, Bool.not_eq_true', decide_eq_false_iff_not, eq_self, reduceCtorEq, Bool.false_eq_true, if_true, if_false, ite_true, ite_false, and_self, ↓tLc_range1, ↓tLc_range2, ↓tLc_list, ↓tLc_tup, ↓tYes_, wipe0, wipe1, ↓tCallS_, ↓rIxL_, ↓rIxT_, ↓rSlL_, ↓rCat_, ↓rSetL_, ↓rRep_, ↓rGcd_, ↓tCallK_, ↓gUnl_, ↓tRaise_, decide_true, decide_false, not_true_eq_false, not_false_eq_true, false_and, or_false, false_or, and_false, and_assoc, exists_const, forall_const, forall_eq'])
section
variable {P : Program} {w : World} {K : PySem.W.Frag} {mg : Str → Option Value} {base : Heap}
abbrev FM (K : PySem.W.Frag) (x q : Str) (st : Stmt) (f : Addr) (fd : FuncData) : Prop := FunD K x q (defArgs st) (defBody st) (defScope st) [] [] f fd
/-! ### stores -/
def sf (an ac dp da : Addr) (lt : Str) : List (Str × V) := [("names", .ref an), ("cells", .ref ac), ("places", .ref dp), ("arrows", .ref da), ("letters", .str lt)]
theorem sf_n (an ac dp da : Addr) (lt : Str) : (sf an ac dp da lt).lookup ("names" : Str) = some (.ref an) := rfl
theorem sf_c (an ac dp da : Addr) (lt : Str) : (sf an ac dp da lt).lookup ("cells" : Str) = some (.ref ac) := rfl
theorem sf_p (an ac dp da : Addr) (lt : Str) : (sf an ac dp da lt).lookup ("places" : Str) = some (.ref dp) := rfl
theorem sf_a (an ac dp da : Addr) (lt : Str) : (sf an ac dp da lt).lookup ("arrows" : Str) = some (.ref da) := rfl
theorem sf_l (an ac dp da : Addr) (lt : Str) : (sf an ac dp da lt).lookup ("letters" : Str) = some (.str lt) := rfl
/-- an instance of Store with these names and cells -/
def StA (K : PySem.W.Frag) (C : Addr) (H : Hp) (r : Addr) (ns cs : List (Nat × Nat)) : Prop := ∃ (dx an ac dp da : Addr), H r = some (.ins C dx (sf an ac dp da (lettT ns))) ∧ PrsAt K H an (ns.map nk) ∧ PrsAt K H ac (cs.map ck) ∧
  H dp = some (.dK (ns.map nk)) ∧ H da = some (.dK (cs.map ck)) ∧ NmOk ns ∧ ClOk cs
theorem StA.up {C : Addr} {H H' : Hp} (s : Same H H') {r : Addr} {ns cs : List (Nat × Nat)} (h : StA K C H r ns cs) : StA K C H' r ns cs := by
  obtain ⟨dx, an, ac, dp, da, h1, h2, h3, h4, h5, h6, h7⟩ := h
  exact ⟨dx, an, ac, dp, da, s _ _ h1, h2.up s, h3.up s, s _ _ h4, s _ _ h5, h6, h7⟩
structure StB (K : PySem.W.Frag) (C : Addr) : Prop where
  cl : Cls K C
  nN : NoAttr K C "names"
  nC : NoAttr K C "cells"
  nP : NoAttr K C "places"
  nA : NoAttr K C "arrows"
  nL : NoAttr K C "letters"
structure StM (K : PySem.W.Frag) (mg : Str → Option Value) (C f : Addr) : Prop where
  own : Lo.OwnC K C
  mkr : Mk K C f
  g : mg "Store" = some (.ref C)
def spInit (K : PySem.W.Frag) (C : Addr) : Sp := fun vs H Q _ => ∃ (r dx an ac : Addr) (ns cs : List (Nat × Nat)), vs = [.ref r, .ref an, .ref ac] ∧ H r = some (.ins C dx []) ∧ PrsAt K H an (ns.map nk) ∧ PrsAt K H ac (cs.map ck) ∧ NmOk ns ∧ ClOk cs ∧
  ∀ H', But r H H' → StA K C H' r ns cs → Q .non H'
theorem ins_no {C dx : Addr} {fs : List (Str × V)} (xs : List V) : HO.ins C dx fs ≠ .tup xs ∧ ∀ ob, HO.ins C dx fs ≠ .frz ob (.tup xs) := ⟨fun z => (by cases z), fun _ z => (by cases z)⟩
def inP (H : Hp) (ns : List (Nat × Nat)) (D : Addr) (j : Nat) (H' : Hp) : Prop := Same H H' ∧ H' D = some (.lst (((ns.take j).map fun n => L1 n.1).map V.str))
theorem sc_in : FnScope ["self", "names", "cells", "letter", "place"] ["self", "names", "cells"] (defScope (inClass (top 25) 0)) := ⟨rfl, rfl, rfl, by decide +kernel, rfl, by decide +kernel, by decide +kernel⟩
theorem ok_in {f C : Addr} {fd : FuncData} {q : Str} (T : Tx mg) (W : StB K C) (F : FM K "__init__" q (inClass (top 25) 0) f fd) {f1 f2 : Addr} {fd1 fd2 : FuncData} (C1 : Cal P w K mg base CX0 4 "are_name_pairs" ["value"] (spNames K) f1 fd1)
    (C2 : Cal P w K mg base CX0 4 "check_cells" ["value"] (spCells K) f2 fd2) : FnOk P w K mg base CX0 5 f fd ["self", "names", "cells"] (spInit K C) := by
  obtain ⟨gare_name_pairs, kare_name_pairs, bare_name_pairs, Fare_name_pairs⟩ := C1
  obtain ⟨gcheck_cells, kcheck_cells, bcheck_cells, Fcheck_cells⟩ := C2
  refine F.ok sc_in (fun vs H Q E h => ?_) (fun cdv A outer s H vs Q E hr h => ?_)
  · obtain ⟨_, _, _, _, _, _, rfl, _⟩ := h
    rfl
  · obtain ⟨r, dx, an, ac, ns, cs, rfl, hr0, hn, hc, okn, okc, k⟩ := h
    have nd := sc_in.nd
    refine ⟨_, (pss_cons (ps_if (pt_not (pt_val (pe_call Fare_name_pairs (hr.mono (by omega)) rfl gare_name_pairs kare_name_pairs bare_name_pairs .nil pass0 (pa_cons (pv 1) pa_nil)))) (pss_one ps_never) pss_nil)
        (pss_cons (ps_expr (pe_call Fcheck_cells (hr.mono (by omega)) rfl gcheck_cells kcheck_cells bcheck_cells .nil pass0 (pa_cons (pv 2) pa_nil)))
        (pss_cons (ps_fld (pv 0) (pv 1) rfl)
        (pss_cons (ps_fld (pv 0) (pv 2) rfl)
        (pss_cons (ps_fld (pv 0) (pe_callTy (En.call_dictT (K := K) rfl rfl) (by rfl) T.b_dict (by decide +kernel) (pa_cons (pv 1) pa_nil)) rfl)
        (pss_cons (ps_fld (pv 0) (pe_callTy (En.call_dictT (K := K) rfl rfl) (by rfl) T.b_dict (by decide +kernel) (pa_cons (pv 2) pa_nil)) rfl)
        (pss_one (ps_fld (pv 0) (pe_join pe_str (pe_lc (own := [("letter", 3), ("place", 4)]) rfl nd (pi_tup (pv 1)) (blkOk_by (N := ["self", "names", "cells", "letter", "place"]) (sc := defScope (inClass (top 25) 0)) (by decide +kernel)) (fun _ _ _ _ _ => (pg_tupK (K := K) (n := 2) rfl rfl (pgs_cons (pg_name (i := 3) nd rfl (Or.inl rfl) (hf := Or.inr rfl)) (pgs_cons (pg_name (i := 4) nd rfl (Or.inl rfl) (hf := Or.inr rfl)) pgs_nil)) rfl rfl)) (fun _ _ _ _ _ => pts_nil) (fun _ _ _ _ _ => (pv 3)))) rfl)))))))), ?_⟩
    refine sq fun U hU => ?_
    walk_at "rd"
    refine ⟨an, ns, rfl, hn, okn, true, rfl, ?_⟩
    rw [if_neg (by decide)]
    refine hU _ _ ?_
    clear hU
    refine sq fun U hU => ?_
    walk_at "rd"
    refine ⟨ac, cs, rfl, hc, okc, fun H1 s1 => hU _ _ ?_⟩
    clear hU
    have hr1 := s1 _ _ hr0
    have hn1 := hn.up s1
    have hc1 := hc.up s1
    refine sq fun U hU => ?_
    walk_at "rd"
    refine ⟨C, dx, [], ⟨hr1, W.cl, W.nN, by decide⟩, hU _ _ ?_⟩
    clear hU
    have b2 : But r H1 (upd H1 r (.ins C dx (putF (Str.ofString "names") (.ref an) []))) := But.put
    have hr2 : upd H1 r (.ins C dx (putF (Str.ofString "names") (.ref an) [])) r = some (.ins C dx [("names", .ref an)]) := upd_same
    generalize upd H1 r (.ins C dx (putF (Str.ofString "names") (.ref an) [])) = H2 at b2 hr2 ⊢
    have hn2 := hn1.but b2 hr1 ins_no
    have hc2 := hc1.but b2 hr1 ins_no
    refine sq fun U hU => ?_
    walk_at "rd"
    refine ⟨C, dx, _, ⟨hr2, W.cl, W.nC, show 1 < 1000 by decide⟩, hU _ _ ?_⟩
    clear hU
    have b3 : But r H2 (upd H2 r (.ins C dx (putF (Str.ofString "cells") (.ref ac) [("names", .ref an)]))) := But.put
    have hr3 : upd H2 r (.ins C dx (putF (Str.ofString "cells") (.ref ac) [("names", .ref an)])) r = some (.ins C dx [("names", .ref an), ("cells", .ref ac)]) := upd_same
    generalize upd H2 r (.ins C dx (putF (Str.ofString "cells") (.ref ac) [("names", .ref an)])) = H3 at b3 hr3 ⊢
    have hn3 := hn2.but b3 hr2 ins_no
    have hc3 := hc2.but b3 hr2 ins_no
    have b13 := b2.trans b3
    clear b2 b3 hr2 hn2 hc2
    refine sq fun U hU => ?_
    walk_at "rd"
    obtain ⟨xs, pl, prs⟩ := hn3
    obtain ⟨ps, rfl, pp⟩ := prs.refs
    refine ⟨ps, pl, _, pp, fun dp hdp => ⟨C, dx, [("names", .ref an), ("cells", .ref ac)], ⟨by rw [upd_ne (ne_of_none hr3 hdp)]; exact hr3, W.cl, W.nP, show 2 < 1000 by decide⟩, hU _ _ ?_⟩⟩
    clear hU
    rw [merge_n okn.2.2.2]
    have ndp : dp ≠ r := fun z => by rw [z, hr3] at hdp; cases hdp
    have b4 : But r H3 (upd (upd H3 dp (.dK (ns.map nk))) r (.ins C dx (putF (Str.ofString "places") (.ref dp) [("names", .ref an), ("cells", .ref ac)]))) := fun c o n e => by rw [upd_ne n, upd_ne (ne_of_none e hdp)]; exact e
    have hr4 : upd (upd H3 dp (.dK (ns.map nk))) r (.ins C dx (putF (Str.ofString "places") (.ref dp) [("names", .ref an), ("cells", .ref ac)])) r = some (.ins C dx [("names", .ref an), ("cells", .ref ac), ("places", .ref dp)]) := upd_same
    have hd4 : upd (upd H3 dp (.dK (ns.map nk))) r (.ins C dx (putF (Str.ofString "places") (.ref dp) [("names", .ref an), ("cells", .ref ac)])) dp = some (.dK (ns.map nk)) := by rw [upd_ne ndp, upd_same]
    generalize upd (upd H3 dp (.dK (ns.map nk))) r (.ins C dx (putF (Str.ofString "places") (.ref dp) [("names", .ref an), ("cells", .ref ac)])) = H4 at b4 hr4 hd4 ⊢
    have hn4 : PrsAt K H4 an (ns.map nk) := PrsAt.but b4 hr3 ins_no ⟨_, pl, prs⟩
    have hc4 := hc3.but b4 hr3 ins_no
    clear pl prs pp
    refine sq fun U hU => ?_
    walk_at "rd"
    obtain ⟨xs2, pl2, prs2⟩ := hc4
    obtain ⟨ps2, rfl, pp2⟩ := prs2.refs
    refine ⟨ps2, pl2, _, pp2, fun da hda => ⟨C, dx, [("names", .ref an), ("cells", .ref ac), ("places", .ref dp)], ⟨by rw [upd_ne (ne_of_none hr4 hda)]; exact hr4, W.cl, W.nA, show 3 < 1000 by decide⟩, hU _ _ ?_⟩⟩
    clear hU
    rw [merge_c okc.2.2]
    have nda : da ≠ r := fun z => by rw [z, hr4] at hda; cases hda
    have b5 : But r H4 (upd (upd H4 da (.dK (cs.map ck))) r (.ins C dx (putF (Str.ofString "arrows") (.ref da) [("names", .ref an), ("cells", .ref ac), ("places", .ref dp)]))) := fun c o n e => by rw [upd_ne n, upd_ne (ne_of_none e hda)]; exact e
    have hr5 : upd (upd H4 da (.dK (cs.map ck))) r (.ins C dx (putF (Str.ofString "arrows") (.ref da) [("names", .ref an), ("cells", .ref ac), ("places", .ref dp)])) r = some (.ins C dx [("names", .ref an), ("cells", .ref ac), ("places", .ref dp), ("arrows", .ref da)]) := upd_same
    have he5 : upd (upd H4 da (.dK (cs.map ck))) r (.ins C dx (putF (Str.ofString "arrows") (.ref da) [("names", .ref an), ("cells", .ref ac), ("places", .ref dp)])) da = some (.dK (cs.map ck)) := by rw [upd_ne nda, upd_same]
    generalize upd (upd H4 da (.dK (cs.map ck))) r (.ins C dx (putF (Str.ofString "arrows") (.ref da) [("names", .ref an), ("cells", .ref ac), ("places", .ref dp)])) = H5 at b5 hr5 he5 ⊢
    have hn5 : PrsAt K H5 an (ns.map nk) := hn4.but b5 hr4 ins_no
    have hc5 : PrsAt K H5 ac (cs.map ck) := PrsAt.but b5 hr4 ins_no ⟨_, pl2, prs2⟩
    have hd5 := b5 _ _ ndp hd4
    clear pl2 prs2 pp2
    walk_at "rd"
    obtain ⟨xs, pl, prs⟩ := hn5
    have hl := prs.len
    rw [List.length_map] at hl
    refine ⟨⟨_, rfl⟩, ⟨_, pl.sqt⟩, lc_t (xs := xs) (inP H5 ns) fun D hD => ⟨⟨same_new hD, upd_same⟩, fun j H6 _ hP => sqt_up hP.1 pl.sqt, ?_, ?_⟩⟩
    · rintro j y H6 hy ⟨hs, hL⟩
      obtain ⟨kv, b, hkv, rfl, eb⟩ := (prs.up hs).atV hy
      obtain ⟨n, hn, rfl⟩ := map_at hkv
      have eb : SqT K H6 b [.str (L1 n.1), .int n.2] := eb
      unfold Lturn
      walk_at "rd"
      have jl : j < ns.length := (List.getElem?_eq_some_iff.mp hn).1
      have o2 := okn.2.1
      refine ⟨_, eb, rfl, _, _, rfl, _, _, rfl, rfl, _, hL, ?_, fun c o e => ?_, ?_⟩
      · rw [List.length_map, List.length_map]
        have : (List.take j ns).length ≤ ns.length := List.length_take_le' _ _
        have zl : (1000000 : Nat) ≤ sizeLine := line_big
        omega
      · rw [upd_ne (ne_of_none e hD)]; exact hs c o e
      · rw [upd_same, List.take_succ, hn, List.map_append, List.map_append]; rfl
    · rintro H6 ⟨hs, hL⟩
      rw [hl, List.take_length] at hL
      refine ⟨D, rfl, _, .inl (SqL.of hL), ?_, C, dx, _, ⟨hs _ _ hr5, W.cl, W.nL, show 4 < 1000 by decide⟩, k _ ?_ ?_⟩
      · have h2 := sum_le (fun s : Str => s.length) 1 (ns.map fun n => L1 n.1) (fun s hs' => by
          obtain ⟨n, _, rfl⟩ := List.mem_map.mp hs'
          exact Nat.le_refl _)
        rw [List.length_map] at h2
        have e1 : (Str.ofString "").length = 0 := by decide
        have o2 := okn.2.1
        rw [e1]
        omega
      · intro c o n e
        rw [upd_ne n]
        exact hs _ _ (b5 _ _ n (b4 _ _ n (b13 _ _ n (s1 _ _ e))))
      · have nr : ∀ c o, H6 c = some o → (∀ fs, o ≠ .ins C dx fs) → c ≠ r := fun c o e n z => by
          rw [z, hs _ _ hr5] at e
          exact n _ (Option.some.inj e).symm
        have bb : But r H6 (upd H6 r (.ins C dx (sf an ac dp da (lettT ns)))) := But.put
        exact ⟨dx, an, ac, dp, da, upd_same, PrsAt.but bb (hs _ _ hr5) ins_no (PrsAt.up hs ⟨_, pl, prs⟩), (hc5.up hs).but bb (hs _ _ hr5) ins_no, bb _ _ ndp (hs _ _ hd5), bb _ _ nda (hs _ _ he5), okn, okc⟩
end
end K39S

set_option Elab.async false
set_option linter.all false
set_option maxRecDepth 100000
set_option maxHeartbeats 4000000
namespace K39S
open PySem PySem.Spec PyProof.Rows L2 Rd Dt Dq Pk Ln En Sx Sy
local macro_rules | `(tactic| walk_at "rd") => `(tactic| try simp only [↓Sy.tTupP_, ↓Sy.rTupP_, ↓Sy.rCatP_, ↓Sy.rSlP_, ↓Sy.rDictT_, ↓Sy.tDGet_, ↓Sy.tDGet1_, ↓Sy.tDIn_, ↓Sy.tDNotIn_, ↓Sy.tMeth_, ↓Sy.tMethKw_, ↓Sy.rSortedS_, ↓Sx.rIsT_, ↓En.tFor_enumT, ↓Sy.tFor_enumL, ↓Rv.tMakeKw_, ↓Prp.tProp_, ↓Lo.tBits_, ↓Lo.tJs_n, ↓Lo.tJs_c, ↓Lo.tFmt_, ↓Lo.gFld_, ↓Lo.tMake_, ↓Lo.rOwn_, ↓Rg.tFor_range3, ↓Rg.tLc_range3, ↓Rg.tLstC_, ↓Rg.tLc_rngV, ↓Le.rNeLE_, ↓Le.rEqLE_, ↓Ls.tLc_str, ↓Ls.sDPut_, ↓Rl.rReprL_, ↓Rl.tCallKS_, ↓Ob.tFld_, ↓Ob.sFld_, ↓tVar_, ↓tC_, ↓tM1, ↓tDNewK_, ↓tOp_, ↓tUn_, ↓rI_, ↓rI0_, ↓rU_, ↓eq_ii, ↓ne_ii, ↓eq_ss, ↓ne_ss, ↓eq_bb, ↓ne_bb, ↓tAndV_, ↓tOrV_, ↓tNotV_, ↓tIf_, ↓tTest_, ↓tB_, ↓tAnd_, ↓tOr_, ↓tNot_, ↓tChain_, ↓tNil_, ↓tCons_, ↓tTup_, ↓tLst_, ↓tCB_, ↓tCall_, ↓tSeq_, ↓tNext_, ↓tRet_, ↓tRetN_, ↓tDrop_, ↓tBreak_, ↓tNever_, ↓tIfS_, ↓tAsg_, ↓gName_, ↓gTup_, ↓gCons_, ↓gNil_, ↓gSub_, ↓tPar_, ↓tPar3_, ↓tSl_, ↓tNoPart_, ↓tPart_, ↓tBM_, ↓tFor_range1, ↓tFor_range2, ↓tFor_list, ↓tFor_tup, L2.start, List.headD_cons, List.headD_nil, List.tail_cons, List.map_cons, List.map_nil, List.length_cons, List.length_nil, List.replicate, List.append_nil, List.nil_append, List.cons_append, List.getElem?_cons_zero, List.getElem?_cons_succ, List.set_cons_zero, List.set_cons_succ, Option.some.injEq, V.int.injEq, V.bl.injEq, V.str.injEq, V.ref.injEq, exists_eq_left, exists_eq_left', exists_eq_right, exists_eq, exists_and_left, and_true, true_and, decide_eq_true_eq, Nat.reduceAdd, Nat.reduceSub, Nat.add_zero, Nat.zero_add, List.cons.injEq, Bool.not_eq_true', decide_eq_false_iff_not, eq_self, reduceCtorEq, Bool.false_eq_true, if_true, if_false, ite_true, ite_false, and_self, ↓tLc_range1, ↓tLc_range2, ↓tLc_list, ↓tLc_tup, ↓tYes_, wipe0, wipe1, ↓tCallS_, ↓rIxL_, ↓rIxT_, ↓rSlL_, ↓rCat_, ↓rSetL_, ↓rRep_, ↓rGcd_, ↓tCallK_, ↓gUnl_, ↓tRaise_, decide_true, decide_false, not_true_eq_false, not_false_eq_true, false_and, or_false, false_or, and_false, and_assoc, exists_const, forall_const, forall_eq'])
section
variable {P : Program} {w : World} {K : PySem.W.Frag} {mg : Str → Option Value} {base : Heap}
/-! ### what a store tells -/
theorem StA.fa {C : Addr} (W : StB K C) {H : Hp} {r dx an ac dp da : Addr} {lt : Str} (h : H r = some (.ins C dx (sf an ac dp da lt))) :
    Ob.FA K H r "names" (.ref an) ∧ Ob.FA K H r "cells" (.ref ac) ∧ Ob.FA K H r "places" (.ref dp) ∧ Ob.FA K H r "arrows" (.ref da) ∧ Ob.FA K H r "letters" (.str lt) :=
  ⟨⟨C, dx, _, h, W.cl, W.nN, sf_n _ _ _ _ _⟩, ⟨C, dx, _, h, W.cl, W.nC, sf_c _ _ _ _ _⟩, ⟨C, dx, _, h, W.cl, W.nP, sf_p _ _ _ _ _⟩, ⟨C, dx, _, h, W.cl, W.nA, sf_a _ _ _ _ _⟩, ⟨C, dx, _, h, W.cl, W.nL, sf_l _ _ _ _ _⟩⟩
theorem Asc.look {ns : List (Nat × Nat)} (h : Asc ns) {n : Nat × Nat} (hn : n ∈ ns) : look ns n.1 = some n.2 := by
  unfold Sx.look
  induction ns with
  | nil => cases hn
  | cons x ns ih =>
    unfold Asc at h
    rw [List.pairwise_cons] at h
    rw [List.find?_cons]
    rcases List.mem_cons.mp hn with rfl | hn
    · rw [decide_eq_true rfl]; rfl
    · have := h.1 n hn
      rw [decide_eq_false (by omega)]
      exact ih h.2 hn
/-- at -/
def spAt (K : PySem.W.Frag) (C : Addr) : Sp := fun vs H Q _ => ∃ (r : Addr) (ns cs : List (Nat × Nat)) (n : Nat × Nat), vs = [.ref r, .str (L1 n.1)] ∧ StA K C H r ns cs ∧ n ∈ ns ∧ Q (.int n.2) H
theorem sc_at : FnScope ["self", "letter"] ["self", "letter"] (defScope (inClass (top 25) 3)) := ⟨rfl, rfl, rfl, by decide +kernel, rfl, by decide +kernel, by decide +kernel⟩
theorem ok_at {f C : Addr} {fd : FuncData} {q : Str} (T : Tx mg) (W : StB K C) (F : FM K "at" q (inClass (top 25) 3) f fd) {f1 : Addr} {fd1 : FuncData} (C1 : Cal P w K mg base CX0 1 "is_letter" ["value"] spLetter f1 fd1) : FnOk P w K mg base CX0 2 f fd ["self", "letter"] (spAt K C) := by
  obtain ⟨gis_letter, kis_letter, bis_letter, Fis_letter⟩ := C1
  refine F.ok sc_at (fun vs H Q E h => ?_) (fun cdv A outer s H vs Q E hr h => ?_)
  · obtain ⟨_, _, _, _, rfl, _⟩ := h
    rfl
  · obtain ⟨r, ns, cs, n, rfl, ⟨dx, an, ac, dp, da, hr0, hn, hc, hp, ha, okn, okc⟩, hm, k⟩ := h
    have nd := sc_at.nd
    obtain ⟨b1, b2, b3⟩ := okn.2.2.1 n hm
    obtain ⟨fn, fc, fp, fa, fl⟩ := StA.fa W hr0
    have hg : DGet H dp (.str (L1 n.1)) (some (.int n.2)) := by
      have := DGet.k (k := Sum.inr (L1 n.1)) hp
      rw [val_n, Asc.look okn.2.2.2 hm] at this
      exact this
    refine ⟨_, (pss_cons (ps_if (PW.pt (pw_or (pt_not (pt_val (pe_call Fis_letter (hr.mono (by omega)) rfl gis_letter kis_letter bis_letter .nil pass0 (pa_cons (pv 1) pa_nil)))) (pw_or1 (pt_cmp (pc_dnotin (hu_of hr) (pv 1) (Ob.pe_fldK (K := K) rfl (pv 0) rfl)))))) (pss_one ps_never) pss_nil)
        (pss_one (ps_ret (pe_dget (hu_of hr) (Ob.pe_fldK (K := K) rfl (pv 0) rfl) (pv 1) (fun _ _ => rfl))))), ?_⟩
    refine sq fun U hU => ?_
    walk_at "rd"
    refine ⟨n.1, rfl, b1, b2, true, rfl, ?_⟩
    rw [if_neg (by decide)]
    refine ⟨_, fp, dp, rfl, _, hg, ?_⟩
    rw [if_neg (by simp)]
    refine hU _ _ ?_
    walk_at "rd"
    exact ⟨_, fp, dp, rfl, _, hg, k⟩
/-- arrow -/
def optV (o : Option Nat) : V := match o with
  | some n => .int n
  | none => .non
def spArrow (K : PySem.W.Frag) (C : Addr) : Sp := fun vs H Q _ => ∃ (r : Addr) (ns cs : List (Nat × Nat)) (p : Nat), vs = [.ref r, .int p] ∧ StA K C H r ns cs ∧ p ≤ 999 ∧ Q (optV (look cs p)) H
theorem get_c {H : Hp} {da : Addr} {cs : List (Nat × Nat)} (h : H da = some (.dK (cs.map ck))) (p : Nat) : DGet H da (.int p) ((look cs p).map fun v : Nat => V.int v) := by
  have := DGet.k (k := Sum.inl (p : Int)) h
  rw [val_c, if_pos (by omega), Int.toNat_natCast] at this
  exact this
theorem optV_get (o : Option Nat) : (o.map fun v : Nat => V.int v).getD .non = optV o := by cases o <;> rfl
theorem sc_ar : FnScope ["self", "place"] ["self", "place"] (defScope (inClass (top 25) 4)) := ⟨rfl, rfl, rfl, by decide +kernel, rfl, by decide +kernel, by decide +kernel⟩
theorem ok_ar {f C : Addr} {fd : FuncData} {q : Str} (T : Tx mg) (W : StB K C) (F : FM K "arrow" q (inClass (top 25) 4) f fd) {f1 : Addr} {fd1 : FuncData} (C1 : Cal P w K mg base CX0 3 "is_place" ["value"] spPlace f1 fd1) : FnOk P w K mg base CX0 4 f fd ["self", "place"] (spArrow K C) := by
  obtain ⟨gis_place, kis_place, bis_place, Fis_place⟩ := C1
  refine F.ok sc_ar (fun vs H Q E h => ?_) (fun cdv A outer s H vs Q E hr h => ?_)
  · obtain ⟨_, _, _, _, rfl, _⟩ := h
    rfl
  · obtain ⟨r, ns, cs, p, rfl, ⟨dx, an, ac, dp, da, hr0, hn, hc, hp, ha, okn, okc⟩, hm, k⟩ := h
    have nd := sc_ar.nd
    obtain ⟨fn, fc, fp, fa, fl⟩ := StA.fa W hr0
    refine ⟨_, (pss_cons (ps_if (pt_not (pt_val (pe_call Fis_place (hr.mono (by omega)) rfl gis_place kis_place bis_place .nil pass0 (pa_cons (pv 1) pa_nil)))) (pss_one ps_never) pss_nil)
        (pss_one (ps_ret (pe_dget1 (hu_of hr) (Ob.pe_fldK (K := K) rfl (pv 0) rfl) (pv 1) ⟨rfl, rfl, rfl, rfl⟩)))), ?_⟩
    refine sq fun U hU => ?_
    walk_at "rd"
    refine ⟨p, rfl, true, by rw [decide_eq_true (show (0 : Int) ≤ p by omega), decide_eq_true (show (p : Int) ≤ 999 by omega)]; rfl, ?_⟩
    rw [if_neg (by decide)]
    refine hU _ _ ?_
    walk_at "rd"
    refine ⟨_, fa, da, rfl, .inl ⟨_, .inl ha⟩, _, get_c ha p, ?_⟩
    rw [optV_get]
    exact k
/-- is_gone -/
def goneB (ns cs : List (Nat × Nat)) (p : Nat) : Bool := !decide (p = 0) && ((look cs p).isNone && (ns.any (fun n => decide (n.2 = p)) || cs.any (fun c => decide (c.2 = p))))
def spGone (K : PySem.W.Frag) (C : Addr) : Sp := fun vs H Q _ => ∃ (r : Addr) (ns cs : List (Nat × Nat)) (p : Nat), vs = [.ref r, .int p] ∧ StA K C H r ns cs ∧ p ≤ 999 ∧ ∀ H', Same H H' → Q (.bl (goneB ns cs p)) H'
def goP (H : Hp) (ns : List (Nat × Nat)) (p : Nat) (g : Nat × Nat → Nat) (D : Addr) (j : Nat) (H' : Hp) : Prop := Same H H' ∧ H' D = some (.lst (((ns.take j).filter fun n => decide (n.2 = p)).map fun n => V.int (g n)))
theorem any_fil {α : Type} (p : α → Bool) (l : List α) : decide (¬ l.filter p = []) = l.any p := by
  rw [Bool.eq_iff_iff, decide_eq_true_eq, List.any_eq_true]
  constructor
  · intro h
    obtain ⟨x, hx⟩ := List.exists_mem_of_ne_nil _ h
    rw [List.mem_filter] at hx
    exact ⟨x, hx⟩
  · rintro ⟨x, hx, h⟩ z
    have : x ∈ l.filter p := List.mem_filter.mpr ⟨hx, h⟩
    rw [z] at this
    cases this
theorem goP_step {H : Hp} {ns : List (Nat × Nat)} {p : Nat} {g : Nat × Nat → Nat} {D : Addr} {j : Nat} {H' : Hp} (hl : ns.length ≤ 500) (h : goP H ns p g D j H') (hD : H D = none) {n : Nat × Nat} (hn : ns[j]? = some n) (z : Nat) (ez : g n = z) :
    if (n.2 : Int) = p then ∃ acc, H' D = some (.lst acc) ∧ acc.length < sizeLine ∧ goP H ns p g D (j + 1) (upd H' D (.lst (acc ++ [V.int z]))) else goP H ns p g D (j + 1) H' := by
  obtain ⟨hs, hL⟩ := h
  have zl : (1000000 : Nat) ≤ sizeLine := line_big
  have e1 : (ns.take (j + 1)).filter (fun n => decide (n.2 = p)) = (ns.take j).filter (fun n => decide (n.2 = p)) ++ if n.2 = p then [n] else [] := by
    rw [List.take_succ, hn, List.filter_append]
    congr 1
    by_cases c : n.2 = p
    · rw [if_pos c]; simp [c]
    · rw [if_neg c]; simp [c]
  split
  · rename_i c
    refine ⟨_, hL, ?_, fun c o e => ?_, ?_⟩
    · rw [List.length_map]
      have h1 := List.length_filter_le (fun n : Nat × Nat => decide (n.2 = p)) (ns.take j)
      have h2 : (List.take j ns).length ≤ ns.length := List.length_take_le' _ _
      omega
    · rw [upd_ne (ne_of_none e hD)]; exact hs c o e
    · rw [upd_same, e1, if_pos (by omega), List.map_append, ← ez]; rfl
  · rename_i c
    refine ⟨hs, ?_⟩
    rw [e1, if_neg (by omega), List.append_nil]
    exact hL
end
end K39S

set_option Elab.async false
set_option linter.all false
set_option maxRecDepth 100000
set_option maxHeartbeats 4000000
namespace K39S
open PySem PySem.Spec PyProof.Rows L2 Rd Dt Dq Pk Ln En Sx Sy
local macro_rules | `(tactic| walk_at "rd") => `(tactic| try simp only [↓Sy.tTupP_, ↓Sy.rTupP_, ↓Sy.rCatP_, ↓Sy.rSlP_, ↓Sy.rDictT_, ↓Sy.tDGet_, ↓Sy.tDGet1_, ↓Sy.tDIn_, ↓Sy.tDNotIn_, ↓Sy.tMeth_, ↓Sy.tMethKw_, ↓Sy.rSortedS_, ↓Sx.rIsT_, ↓En.tFor_enumT, ↓Sy.tFor_enumL, ↓Rv.tMakeKw_, ↓Prp.tProp_, ↓Lo.tBits_, ↓Lo.tJs_n, ↓Lo.tJs_c, ↓Lo.tFmt_, ↓Lo.gFld_, ↓Lo.tMake_, ↓Lo.rOwn_, ↓Rg.tFor_range3, ↓Rg.tLc_range3, ↓Rg.tLstC_, ↓Rg.tLc_rngV, ↓Le.rNeLE_, ↓Le.rEqLE_, ↓Ls.tLc_str, ↓Ls.sDPut_, ↓Rl.rReprL_, ↓Rl.tCallKS_, ↓Ob.tFld_, ↓Ob.sFld_, ↓tVar_, ↓tC_, ↓tM1, ↓tDNewK_, ↓tOp_, ↓tUn_, ↓rI_, ↓rI0_, ↓rU_, ↓eq_ii, ↓ne_ii, ↓eq_ss, ↓ne_ss, ↓eq_bb, ↓ne_bb, ↓tAndV_, ↓tOrV_, ↓tNotV_, ↓tIf_, ↓tTest_, ↓tB_, ↓tAnd_, ↓tOr_, ↓tNot_, ↓tChain_, ↓tNil_, ↓tCons_, ↓tTup_, ↓tLst_, ↓tCB_, ↓tCall_, ↓tSeq_, ↓tNext_, ↓tRet_, ↓tRetN_, ↓tDrop_, ↓tBreak_, ↓tNever_, ↓tIfS_, ↓tAsg_, ↓gName_, ↓gTup_, ↓gCons_, ↓gNil_, ↓gSub_, ↓tPar_, ↓tPar3_, ↓tSl_, ↓tNoPart_, ↓tPart_, ↓tBM_, ↓tFor_range1, ↓tFor_range2, ↓tFor_list, ↓tFor_tup, L2.start, List.headD_cons, List.headD_nil, List.tail_cons, List.map_cons, List.map_nil, List.length_cons, List.length_nil, List.replicate, List.append_nil, List.nil_append, List.cons_append, List.getElem?_cons_zero, List.getElem?_cons_succ, List.set_cons_zero, List.set_cons_succ, Option.some.injEq, V.int.injEq, V.bl.injEq, V.str.injEq, V.ref.injEq, exists_eq_left, exists_eq_left', exists_eq_right, exists_eq, exists_and_left, and_true, true_and, decide_eq_true_eq, Nat.reduceAdd, Nat.reduceSub, Nat.add_zero, Nat.zero_add, List.cons.injEq, Bool.not_eq_true', decide_eq_false_iff_not, eq_self, reduceCtorEq, Bool.false_eq_true, if_true, if_false, ite_true, ite_false, and_self, ↓tLc_range1, ↓tLc_range2, ↓tLc_list, ↓tLc_tup, ↓tYes_, wipe0, wipe1, ↓tCallS_, ↓rIxL_, ↓rIxT_, ↓rSlL_, ↓rCat_, ↓rSetL_, ↓rRep_, ↓rGcd_, ↓tCallK_, ↓gUnl_, ↓tRaise_, decide_true, decide_false, not_true_eq_false, not_false_eq_true, false_and, or_false, false_or, and_false, and_assoc, exists_const, forall_const, forall_eq'])
section
variable {P : Program} {w : World} {K : PySem.W.Frag} {mg : Str → Option Value} {base : Heap}
/-! ### as data -/
def dN (ns : List (Nat × Nat)) : PyData := .tuple ((ns.map nk).map pD)
def dC (cs : List (Nat × Nat)) : PyData := .tuple ((cs.map ck).map pD)
theorem fit_nat {n : Nat} (h : n < 1024) : Fit (.int (n : Int)) 0 12 := (Fit.int (k := 10) (by decide) (by decide) (by rw [Int.natAbs_natCast]; exact h)).mono (Nat.le_refl _) (by decide)
theorem fit_pair {a b : PyData} (h1 : Fit a 0 12) (h2 : Fit b 0 12) : Fit (.tuple [a, b]) 1 31 := Fit.tuple fun d hd => by
  rcases List.mem_cons.mp hd with rfl | hd
  · exact h1
  · rw [List.mem_singleton.mp hd]; exact h2
theorem fit_L1 {c : Nat} (h : c < 0x110000) : Fit (.str (L1 c)) 0 12 := (Fit.str (n := 1) (Nat.le_refl _) fun x hx => by
  have : x = c := by simpa [L1] using hx
  omega).mono (Nat.le_refl _) (by decide)
theorem fit_N {ns : List (Nat × Nat)} (h : NmOk ns) : Fit (dN ns) 2 17000 := (Fit.tuple (k := 1) (n := 31) fun d hd => by
  obtain ⟨kv, hk, rfl⟩ := List.mem_map.mp hd
  obtain ⟨n, hn, rfl⟩ := List.mem_map.mp hk
  obtain ⟨b1, b2, b3⟩ := h.2.2.1 n hn
  exact fit_pair (fit_L1 (by omega)) (fit_nat (by omega))).mono (Nat.le_refl _) (by
  rw [List.length_map, List.length_map]
  have := h.2.1
  omega)
theorem fit_C {cs : List (Nat × Nat)} (h : ClOk cs) : Fit (dC cs) 2 17000 := (Fit.tuple (k := 1) (n := 31) fun d hd => by
  obtain ⟨kv, hk, rfl⟩ := List.mem_map.mp hd
  obtain ⟨n, hn, rfl⟩ := List.mem_map.mp hk
  obtain ⟨b1, b2, b3⟩ := h.2.1 n hn
  exact fit_pair (fit_nat (by omega)) (fit_nat (by omega))).mono (Nat.le_refl _) (by
  rw [List.length_map, List.length_map]
  have := h.1
  omega)
theorem eqv_pairs {g : Nat × Nat → Key × V} (hg : ∀ a b, PyData.eqv (pD (g a)) (pD (g b)) = decide (a = b)) : ∀ xs ys : List (Nat × Nat), PyData.eqvAll ((xs.map g).map pD) ((ys.map g).map pD) = decide (xs = ys)
  | [], [] => by simp [PyData.eqvAll]
  | [], _ :: _ => by simp [PyData.eqvAll]
  | _ :: _, [] => by simp [PyData.eqvAll]
  | x :: xs, y :: ys => by
    show (PyData.eqv (pD (g x)) (pD (g y)) && PyData.eqvAll ((xs.map g).map pD) ((ys.map g).map pD)) = _
    rw [hg, eqv_pairs hg xs ys, Bool.eq_iff_iff]
    simp
theorem eqv_N (xs ys : List (Nat × Nat)) : PyData.eqv (dN xs) (dN ys) = decide (xs = ys) := by
  unfold dN
  rw [PyData.eqv]
  refine eqv_pairs (fun a b => ?_) xs ys
  show PyData.eqv (.tuple [.str (L1 a.1), .int a.2]) (.tuple [.str (L1 b.1), .int b.2]) = _
  rw [PyData.eqv, PyData.eqvAll, PyData.eqvAll, PyData.eqvAll, PyData.eqv, PyData.eqv, Bool.eq_iff_iff]
  obtain ⟨a1, a2⟩ := a
  obtain ⟨b1, b2⟩ := b
  simp only [Bool.and_true, Bool.and_eq_true, beq_iff_eq, decide_eq_true_eq, Prod.mk.injEq]
  constructor
  · rintro ⟨h1, h2⟩
    exact ⟨L1_inj h1, by omega⟩
  · rintro ⟨rfl, rfl⟩
    exact ⟨rfl, rfl⟩
theorem eqv_C (xs ys : List (Nat × Nat)) : PyData.eqv (dC xs) (dC ys) = decide (xs = ys) := by
  unfold dC
  rw [PyData.eqv]
  refine eqv_pairs (fun a b => ?_) xs ys
  show PyData.eqv (.tuple [.int a.1, .int a.2]) (.tuple [.int b.1, .int b.2]) = _
  rw [PyData.eqv, PyData.eqvAll, PyData.eqvAll, PyData.eqvAll, PyData.eqv, PyData.eqv, Bool.eq_iff_iff]
  obtain ⟨a1, a2⟩ := a
  obtain ⟨b1, b2⟩ := b
  simp only [Bool.and_true, Bool.and_eq_true, beq_iff_eq, decide_eq_true_eq, Prod.mk.injEq]
  constructor
  · rintro ⟨h1, h2⟩
    omega
  · rintro ⟨rfl, rfl⟩
    exact ⟨rfl, rfl⟩
theorem dp_N {H : Hp} {a : Addr} {ns : List (Nat × Nat)} (h : PrsAt K H a (ns.map nk)) : Dp K H (.ref a) (dN ns) := h.dp (intV_n ns)
theorem dp_C {H : Hp} {a : Addr} {cs : List (Nat × Nat)} (h : PrsAt K H a (cs.map ck)) : Dp K H (.ref a) (dC cs) := h.dp (intV_c cs)
/-! ### == -/
def spEq (K : PySem.W.Frag) (C : Addr) : Sp := fun vs H Q _ => ∃ (r : Addr) (y : V) (ns cs : List (Nat × Nat)), vs = [.ref r, y] ∧ StA K C H r ns cs ∧ ((∃ t, TyOf K H y t ∧ PySem.W.kitOne K t (.ref C) = some false ∧ Q (.bl false) H) ∨
  ∃ (b : Addr) (ns' cs' : List (Nat × Nat)), y = .ref b ∧ StA K C H b ns' cs' ∧ Q (.bl (decide (ns = ns') && decide (cs = cs'))) H)
theorem sc_eq : FnScope ["self", "other"] ["self", "other"] (defScope (inClass (top 25) 1)) := ⟨rfl, rfl, rfl, by decide +kernel, rfl, by decide +kernel, by decide +kernel⟩
theorem ok_eq {f C fi : Addr} {fd : FuncData} {q : Str} (T : Tx mg) (W : StB K C) (L : StM K mg C fi) (F : FM K "__eq__" q (inClass (top 25) 1) f fd) : FnOk P w K mg base CX0 1 f fd ["self", "other"] (spEq K C) := by
  refine F.ok sc_eq (fun vs H Q E h => ?_) (fun cdv A outer s H vs Q E hr h => ?_)
  · obtain ⟨_, _, _, _, rfl, _⟩ := h
    rfl
  · obtain ⟨r, y, ns, cs, rfl, ⟨dx, an, ac, dp, da, hr0, hn, hc, hp, ha, okn, okc⟩, hy⟩ := h
    have nd := sc_eq.nd
    obtain ⟨fn, fc, fp, fa, fl⟩ := StA.fa W hr0
    refine ⟨_, (pss_one (ps_ret (pe_and (pe_callB call_isi (by rfl) T.b_isinstance (by decide +kernel) (pa_cons (pv 1) (pa_cons (pe_glob (v := .ref C) rfl L.g rfl) pa_nil))) (pe_and (pe_cmpR (op_eqD hr.units) (Ob.pe_fldK (K := K) rfl (pv 0) rfl) (Ob.pe_fldK (K := K) rfl (pv 1) rfl) (nomark _)) (pe_one (pe_cmpR (op_eqD hr.units) (Ob.pe_fldK (K := K) rfl (pv 0) rfl) (Ob.pe_fldK (K := K) rfl (pv 1) rfl) (nomark _))))))), ?_⟩
    walk_at "rd"
    rcases hy with ⟨t, ty, kt, k⟩ | ⟨b, ns', cs', rfl, ⟨dy, an', ac', dp', da', hb, hn', hc', hp', ha', okn', okc'⟩, k⟩
    · exact ⟨_, _, t, .ref C, false, rfl, .own C, .base ty, kt, false, rfl, by rw [if_neg (by decide)]; exact k⟩
    · obtain ⟨gn, gc, gp, ga, gl⟩ := StA.fa W hb
      have kit : PySem.W.kitOne K (.ref C) (.ref C) = some true := by unfold PySem.W.kitOne; rw [if_pos (by exact beq_self_eq_true _)]
      refine ⟨_, _, .ref C, .ref C, true, rfl, .own C, .base (.ins hb L.own.cl L.own.ha L.own.hn L.own.ht L.own.hm), kit, true, rfl, ?_⟩
      rw [if_pos rfl]
      refine ⟨_, fn, b, rfl, _, gn, rEqD_ (fit_N okn) (fit_N okn') (by decide) (by decide) (dp_N hn) (dp_N hn') ⟨_, rfl, ?_⟩⟩
      rw [eqv_N]
      by_cases c : ns = ns'
      · rw [decide_eq_true c] at k ⊢
        rw [if_pos rfl]
        refine ⟨_, fc, b, rfl, _, gc, rEqD_ (fit_C okc) (fit_C okc') (by decide) (by decide) (dp_C hc) (dp_C hc') ?_⟩
        rw [eqv_C]
        exact k
      · rw [decide_eq_false c] at k ⊢
        rw [if_neg (by decide)]
        exact k
/-! ### text -/
def spText (K : PySem.W.Frag) (C : Addr) : Sp := fun vs H Q _ => ∃ (r : Addr) (ns cs : List (Nat × Nat)), vs = [.ref r] ∧ StA K C H r ns cs ∧ ∀ H', Same H H' → Q (.str (storeT ns cs)) H'
def txP (H : Hp) (g : Nat × Nat → Str) (ns : List (Nat × Nat)) (D : Addr) (j : Nat) (H' : Hp) : Prop := Same H H' ∧ H' D = some (.lst (((ns.take j).map g).map V.str))
theorem txP_step {H : Hp} {g : Nat × Nat → Str} {ns : List (Nat × Nat)} {D : Addr} {j : Nat} {H' : Hp} (hl : ns.length ≤ 500) (h : txP H g ns D j H') (hD : H D = none) {n : Nat × Nat} (hn : ns[j]? = some n) (z : Str) (ez : z = g n) :
    ∃ acc, H' D = some (.lst acc) ∧ acc.length < sizeLine ∧ txP H g ns D (j + 1) (upd H' D (.lst (acc ++ [V.str z]))) := by
  obtain ⟨hs, hL⟩ := h
  have zl : (1000000 : Nat) ≤ sizeLine := line_big
  refine ⟨_, hL, ?_, fun c o e => ?_, ?_⟩
  · rw [List.length_map, List.length_map]
    have h2 : (List.take j ns).length ≤ ns.length := List.length_take_le' _ _
    omega
  · rw [upd_ne (ne_of_none e hD)]; exact hs c o e
  · rw [upd_same, List.take_succ, hn, List.map_append, List.map_append, ez]; rfl
theorem sc_tx : FnScope ["self", "names", "cells", "letter", "place", "arrow"] ["self"] (defScope (inClass (top 25) 2)) := ⟨rfl, rfl, rfl, by decide +kernel, rfl, by decide +kernel, by decide +kernel⟩
theorem ok_tx {f C : Addr} {fd : FuncData} {q : Str} (T : Tx mg) (W : StB K C) (F : FM K "text" q (inClass (top 25) 2) f fd) : FnOk P w K mg base CX0 1 f fd ["self"] (spText K C) := by
  refine F.ok sc_tx (fun vs H Q E h => ?_) (fun cdv A outer s H vs Q E hr h => ?_)
  · obtain ⟨_, _, _, rfl, _⟩ := h
    rfl
  · obtain ⟨r, ns, cs, rfl, ⟨dx, an, ac, dp, da, hr0, hn, hc, hp, ha, okn, okc⟩, k⟩ := h
    have nd := sc_tx.nd
    obtain ⟨fn, fc, fp, fa, fl⟩ := StA.fa W hr0
    refine ⟨_, (pss_cons (ps_set (i := 1) nd rfl (Or.inl rfl) (pe_join pe_str (pe_lc (own := [("letter", 3), ("place", 4)]) rfl nd (pi_tup (Ob.pe_fldK (K := K) rfl (pv 0) rfl)) (blkOk_by (N := ["self", "names", "cells", "letter", "place", "arrow"]) (sc := defScope (inClass (top 25) 2)) (by decide +kernel)) (fun _ _ _ _ _ => (pg_tupK (K := K) (n := 2) rfl rfl (pgs_cons (pg_name (i := 3) nd rfl (Or.inl rfl) (hf := Or.inr rfl)) (pgs_cons (pg_name (i := 4) nd rfl (Or.inl rfl) (hf := Or.inr rfl)) pgs_nil)) rfl rfl)) (fun _ _ _ _ _ => pts_nil) (fun _ _ _ _ _ => (pe_joined (PJ.cons (pe_fmt (pv 3)) (PJ.cons (pe_str) (PJ.cons (pe_fmt (pv 4)) PJ.nil))))))))
        (pss_cons (ps_set (i := 2) nd rfl (Or.inl rfl) (pe_join pe_str (pe_lc (own := [("place", 4), ("arrow", 5)]) rfl nd (pi_tup (Ob.pe_fldK (K := K) rfl (pv 0) rfl)) (blkOk_by (N := ["self", "names", "cells", "letter", "place", "arrow"]) (sc := defScope (inClass (top 25) 2)) (by decide +kernel)) (fun _ _ _ _ _ => (pg_tupK (K := K) (n := 2) rfl rfl (pgs_cons (pg_name (i := 4) nd rfl (Or.inl rfl) (hf := Or.inr rfl)) (pgs_cons (pg_name (i := 5) nd rfl (Or.inl rfl) (hf := Or.inr rfl)) pgs_nil)) rfl rfl)) (fun _ _ _ _ _ => pts_nil) (fun _ _ _ _ _ => (pe_joined (PJ.cons (pe_fmt (pv 4)) (PJ.cons (pe_str) (PJ.cons (pe_fmt (pv 5)) PJ.nil))))))))
        (pss_one (ps_ret (pe_op op_add_str (pe_op op_add_str (pv 1) pe_str) (pe_ifExp (pt_cmpR op_ne (pv 2) pe_str (nomark _)) (pv 2) pe_str)))))), ?_⟩
    refine sq fun U hU => ?_
    walk_at "rd"
    obtain ⟨xs, pl, prs⟩ := hn
    have hl := prs.len
    rw [List.length_map] at hl
    have zl : (1000000 : Nat) ≤ sizeLine := line_big
    have o4 : ns.length ≤ 500 := by have := okn.2.1; omega
    refine ⟨⟨_, rfl⟩, _, fn, an, rfl, ⟨_, pl.sqt⟩, lc_t (xs := xs) (txP H nameW ns) fun D hD => ⟨⟨same_new hD, upd_same⟩, fun j H6 _ hP => sqt_up hP.1 pl.sqt, ?_, ?_⟩⟩
    · rintro j y H6 hy hP
      obtain ⟨kv, b, hkv, rfl, eb⟩ := (prs.up hP.1).atV hy
      obtain ⟨n, hn, rfl⟩ := map_at hkv
      obtain ⟨b1, b2, b3⟩ := okn.2.2.1 n (List.mem_of_getElem? hn)
      have eb : SqT K H6 b [.str (L1 n.1), .int n.2] := eb
      unfold Lturn
      walk_at "rd"
      refine ⟨_, eb, rfl, _, _, rfl, _, _, rfl, rfl, ?_⟩
      have l1 := nlen b3
      have e0 : (Str.empty ++ L1 n.1) = L1 n.1 := TL.ext_tl (by rw [TL.tl_append]; rfl)
      have e1 : (L1 n.1).length = 1 := rfl
      have e2 : (Str.ofString "=").length = 1 := by decide
      have en : Str.ofString (toString (n.2 : Int)) = numT n.2 := rfl
      exact .inl ⟨_, rfl, by omega, by rw [e0]; omega, by rw [e0, Str.length_append]; omega, .inr ⟨_, rfl, lg (by omega), by rw [e0, Str.length_append, Str.length_append, en]; omega, txP_step o4 hP hD hn _ (by rw [e0]; rfl)⟩⟩
    · rintro H6 ⟨hs, hL⟩
      rw [hl, List.take_length] at hL
      have es : (Str.ofString " ").length = 1 := by decide
      refine ⟨D, rfl, _, .inl (SqL.of hL), ?_, hU _ _ ?_⟩
      · have h2 := sum_le (fun s : Str => s.length) 6 (ns.map nameW) (fun s hs' => by
          obtain ⟨n, hn, rfl⟩ := List.mem_map.mp hs'
          exact nameW_len (okn.2.2.1 n hn).2.2)
        rw [List.length_map] at h2
        rw [es, List.length_map]
        omega
      clear hU
      refine sq fun U hU => ?_
      walk_at "rd"
      obtain ⟨xs2, pl2, prs2⟩ := hc.up hs
      have hl2 := prs2.len
      rw [List.length_map] at hl2
      have o5 := okc.1
      refine ⟨⟨_, rfl⟩, _, (StA.fa W (hs _ _ hr0)).2.1, ac, rfl, ⟨_, pl2.sqt⟩, lc_t (xs := xs2) (txP H6 cellW cs) fun D2 hD2 => ⟨⟨same_new hD2, upd_same⟩, fun j H8 _ hP => sqt_up hP.1 pl2.sqt, ?_, ?_⟩⟩
      · rintro j y H8 hy hP
        obtain ⟨kv, b, hkv, rfl, eb⟩ := (prs2.up hP.1).atV hy
        obtain ⟨n, hn, rfl⟩ := map_at hkv
        obtain ⟨b1, b2, b3⟩ := okc.2.1 n (List.mem_of_getElem? hn)
        have eb : SqT K H8 b [.int n.1, .int n.2] := eb
        unfold Lturn
        walk_at "rd"
        refine ⟨_, eb, rfl, _, _, rfl, _, _, rfl, rfl, ?_⟩
        have l1 := nlen b3
        have l0 := nlen b2
        have e2 : (Str.ofString ">").length = 1 := by decide
        have en : Str.ofString (toString (n.2 : Int)) = numT n.2 := rfl
        have en1 : Str.ofString (toString (n.1 : Int)) = numT n.1 := rfl
        have e0 : (Str.empty ++ numT n.1) = numT n.1 := TL.ext_tl (by rw [TL.tl_append]; rfl)
        exact .inr ⟨_, rfl, lg (by omega), by rw [en1, e0]; omega, by rw [en1, e0, Str.length_append]; omega, .inr ⟨_, rfl, lg (by omega), by rw [en1, e0, Str.length_append, Str.length_append, en]; omega, txP_step o5 hP hD2 hn _ (by rw [en1, e0]; rfl)⟩⟩
      · rintro H8 ⟨hs8, hL8⟩
        rw [hl2, List.take_length] at hL8
        refine ⟨D2, rfl, _, .inl (SqL.of hL8), ?_, hU _ _ ?_⟩
        · have h2 := sum_le (fun s : Str => s.length) 9 (cs.map cellW) (fun s hs' => by
            obtain ⟨n, hn, rfl⟩ := List.mem_map.mp hs'
            exact cellW_len (okc.2.1 n hn).2.1 (okc.2.1 n hn).2.2)
          rw [List.length_map] at h2
          rw [es, List.length_map]
          omega
        clear hU
        walk_at "rd"
        have m1 := namesT_len okn
        have m2 := cellsT_len okc
        have e3 : (Str.ofString " | ").length = 3 := by decide
        have e4 : (Str.ofString "none").length = 4 := by decide
        have e5 : (Txt.join (Str.ofString " ") (ns.map nameW)).length ≤ 28 := m1
        have kk := k _ (fun c o e => hs8 _ _ (hs _ _ e))
        refine ⟨by omega, ?_⟩
        by_cases ce : cs = []
        · subst ce
          rw [if_neg (by decide +kernel)]
          exact ⟨by rw [Str.length_append]; omega, kk⟩
        · rw [if_pos (cells_empty ce okc)]
          unfold storeT cellsT at kk
          rw [if_neg ce] at kk
          exact ⟨by rw [Str.length_append]; have := m2.2; omega, kk⟩
end
end K39S

set_option Elab.async false
set_option linter.all false
set_option maxRecDepth 100000
set_option maxHeartbeats 4000000
/-! sorted of a tuple of pairs; set of a list of ints -/
namespace So
open PySem PySem.Spec PyProof.Rows L2 Rd Dt Pk Ln En Sx Sy
section
variable {P : Program} {w : World} {A : Around} {E : Value → Shared → Prop} {s : Shared}
/-- what stands behind a collected row -/
abbrev gath (h : Heap) (vs : List Value) : Heap := (h.push (seqObj "list" #[] 0)).update h.objs.size (Obj.mapSeq (· ++ vs.toArray))
theorem gath_tuple {l : Addr} {vs : List Value} {Q : List Value → Shared → Prop} (hl : s.heap.IsTuple l vs.toArray) (hz : vs.length ≤ sizeLine)
    (h : Q vs { s with heap := gath s.heap vs }) : wpAny (model P w) A (collect (.ref l)) Q E s := by
  have ⟨o, ho, hc, n, hd⟩ := hl
  have old : (s.heap.push (seqObj "list" #[] 0)).get? l = some o := Heap.get?_push_of_some _ ho
  have new : (s.heap.push (seqObj "list" #[] 0)).get? s.heap.objs.size = some (seqObj "list" #[] 0) := Heap.get?_push_size _ rfl
  unfold collect
  refine wpAny_bind (wpAny_runValue (codeAny_builtin entry_proto_collect' ?_))
  show wpAny _ _ (do again (.builtin "list.__iadd__" ⟨[← newList [], .ref l], []⟩)) _ _ s
  refine wpAny_bind (wpAny_newList (wpAny_pure ⟨Code.quiet_builtin _ (by decide +kernel), codeAny_builtin entry_list_iadd' ?_⟩))
  show wpAny _ _ (Builtin.List.listExtendWith (.ref s.heap.objs.size) (.ref l) (.ref s.heap.objs.size)) _ _ { s with heap := s.heap.push (seqObj "list" #[] 0) }
  unfold Builtin.List.listExtendWith
  refine wpAny_bind (wpAny_typeOf (T := "tuple") ⟨o, old, hc⟩ ?_)
  have tt : (Value.type "tuple" == Value.type "tuple") = true := by rfl
  rw [if_pos (by rw [tt]; simp)]
  refine wpAny_bind (listItems_at old hd (wpAny_bind (listItems_at (xs := #[]) (n := 0) new rfl ?_)))
  rw [if_neg (by simp)]
  refine wpAny_bind (listUpdate_at (xs := #[]) (n := 0) new rfl ?_ (Nat.zero_le _) (by show (#[] ++ vs.toArray).size ≤ sizeLine + 1; simp only [Array.size_append, List.size_toArray, List.length_nil]; omega))
  refine wpAny_pure ?_
  show wpAny (model P w) A (do
      let o ← load s.heap.objs.size
      match o.data with
      | .seq xs _ => pure xs.toList
      | _ => unsupported "internal:collect") Q E { s with heap := gath s.heap vs }
  refine wpAny_bind (wpAny_load (get?_update_seq new _) ?_)
  show wpAny _ _ (pure ((#[] : Array Value) ++ vs.toArray).toList) Q E _
  have e : ((#[] : Array Value) ++ vs.toArray).toList = vs := by simp
  rw [e]
  exact wpAny_pure h
/-- sorted(t): the collected row is sorted in place -/
theorem sortT {l : Addr} {vs : List Value} {ltv : Value → Value → Bool} {Q : Value → Shared → Prop} (O : SrtO.Swo ltv) (hl : s.heap.IsTuple l vs.toArray) (hz : vs.length ≤ sizeLine)
    (hS : 2 ≤ vs.length → ∀ (h1 : Heap) (a : Addr), h1.get? a = some (seqObj "list" vs.toArray 0) → (∀ b o, s.heap.get? b = some o → b ≠ a ∧ h1.get? b = some o) → SrtO.SortableO P w A.in1.in1 { s with heap := h1 } a vs ltv)
    (h : ∀ out : List Value, SrtO.Srtd ltv out → SrtO.Stb ltv out vs → Q (.ref (s.heap.objs.size + 1)) { s with heap := sortedAll s.heap vs out.toArray }) :
    wpAny (model P w) A (call (.builtin "sorted") [.ref l]) Q E s := by
  refine Calls.call_function_entry kind_sorted plain_sorted entry_sorted (args_sorted1 _) ?_
  unfold Builtin.«sorted»
  refine wpAny_bind (m := checkCount "sorted" 1 1 _) (wpAny_pure (wpAny_bind (gath_tuple hl hz (wpAny_bind (wpAny_newList ?_ hz)))))
  have sz : (gath s.heap vs).objs.size = s.heap.objs.size + 1 := by rw [Heap.size_update]; exact Heap.size_push ..
  have mine : ((gath s.heap vs).push (seqObj "list" vs.toArray 0)).get? (s.heap.objs.size + 1) = some (seqObj "list" vs.toArray 0) := by
    rw [← sz]
    exact Heap.get?_push_size _ rfl
  have rest : ∀ b o, s.heap.get? b = some o → b ≠ s.heap.objs.size + 1 ∧ ((gath s.heap vs).push (seqObj "list" vs.toArray 0)).get? b = some o := fun b o q => by
    have lt := Heap.lt_size q
    refine ⟨Nat.ne_of_lt (Nat.lt_succ_of_lt lt), Heap.get?_push_of_some _ ?_⟩
    rw [Heap.get?_update_ne _ _ _ _ (Nat.ne_of_lt lt)]
    exact Heap.get?_push_of_some _ q
  show wpAny _ _ _ _ _ { s with heap := (gath s.heap vs).push (seqObj "list" vs.toArray 0) }
  rw [sz]
  refine wpAny_bind (wpAny_holding (wpAny_call_entry slot_list_sort ⟨_, mine, rfl⟩ entry_list_sort (SrtO.list_sort_ord O mine hz (fun z => hS z _ _ mine rest) fun out a b => ⟨_, rfl, ?_⟩) (args_list_sort _)))
  exact wpAny_pure ⟨_, rfl, h out a b⟩
end
/-- sorted(t), t a tuple of pairs of ints of any length -/
def rSortedPT (K : PySem.W.Frag) : List V → Hp → VK → Prop := fun vs H Q => ∃ (a : Addr) (xs : List V) (k : V → Int × Int), vs = [V.ref a] ∧ SqT K H a xs ∧ (∀ x ∈ xs, ∃ t, x = V.ref t ∧ SqT K H t [.int (k x).1, .int (k x).2]) ∧
  ∀ ys p, SrtO.Srtd (ltP k) ys → SrtO.Stb (ltP k) ys xs → H p = none → Q (.ref p) (upd H p (.lst ys))
section
variable {X : Cx} {K : PySem.W.Frag}
theorem cr_sortedPT (hK : X.K = K) : CallR X (.builtin "sorted") (rSortedPT K) := by
  subst hK
  intro pins s σ H vs us Q I r h
  obtain ⟨a, xs, k, rfl, hs, hx, q⟩ := h
  obtain ⟨its, rv, hl, hz⟩ := I.tuple hs
  obtain ⟨u, rfl, ru⟩ := vals1 r
  cases ru
  obtain ⟨e1, e2⟩ := refs_back rv fun x m => by
    obtain ⟨t, e, _⟩ := hx x m
    exact ⟨t, e⟩
  have hp : ∀ v ∈ its, Srt.IsPair s.heap v (k (backV v)).1 (k (backV v)).2 := fun v hv => by
    obtain ⟨t, rfl⟩ := e2 v hv
    have hm : V.ref t ∈ xs := by rw [e1]; exact List.mem_map.mpr ⟨_, hv, rfl⟩
    obtain ⟨t', e, ht⟩ := hx _ hm
    cases e
    obtain ⟨us2, r2, ⟨o, ho, hc, n, hd⟩, _⟩ := I.tuple ht
    obtain ⟨u1, u2, rfl, ⟨t1, rfl⟩, ⟨t2, rfl⟩⟩ := vals2 r2
    exact ⟨t, o, t1, t2, n, rfl, ho, hc, hd⟩
  refine sortT (SrtO.swo_lex fun u => k (backV u)) hl (by rw [← rv.length]; exact hz) (fun h2 h1 b hb kk => ?_) fun out ho hb => ?_
  · refine SrtO.pairs_sortableO (s := { s with heap := h1 }) (by omega) (fun v hv => (hp v hv).keeps fun b o e _ => (kk b o e).2) fun o e => ?_
    have e' : some o = some (seqObj "list" its.toArray 0) := e.symm.trans hb
    cases e'
    exact fun c => absurd (Value.type.inj c) (by decide)
  · have h3 : ∀ u ∈ out, ∃ a, u = Value.ref a := fun u hu => e2 u (hb.perm.mem_iff.mp hu)
    obtain ⟨n, hn⟩ := PyProof.Rows.sortedAll_at s.heap its out.toArray
    have hs2 : SrtO.Stb (ltP k) (out.map backV) xs := by
      rw [e1]
      exact SrtO.Stb.map (ltP_swo k) backV hb
    refine ⟨.ref _, upd H (s.heap.objs.size + 1) (.lst (out.map backV)), I.laid (t' := s.toks) (fun _ _ => PyProof.Rows.sortedAll_old) (Nat.le_succ _) ⟨?_, out, n, vals_back h3, hn⟩, rfl, q _ _ (SrtO.srtd_map ho) hs2 (I.hok.fresh (Nat.le_succ _))⟩
    rw [hs2.len]
    exact hz
end
/-! ### set(l) of a list of ints -/
section
variable {P : Program} {w : World} {A : Around} {E : Value → Shared → Prop} {s : Shared}
/-- the empty set as it is made -/
abbrev emp (w : World) : Obj := { cls := .type "set", dict := none, data := .set #[] 0 (.fresh 0 0 (!w.params.followText "set-order")) }
set_option maxHeartbeats 8000000 in
theorem setL {l : Addr} {items : Array Value} (ns : List Int) {Q : Value → Shared → Prop} (hh : A.handled = none) (hl : s.heap.IsList l items) (hit : IntsAre items.toList ns) (hb : ns.length + 1 < scanBound)
    (h : ∀ (h' : Heap) (tk c : Nat), SetR w h' s.heap.objs.size (fun j => decide (j ∈ ns)) c → c ≤ ns.length → (∀ b o, s.heap.get? b = some o → h'.get? b = some o) → Q (.ref s.heap.objs.size) { s with heap := h', toks := tk }) :
    wpAny (model P w) A (call (.type "set") [.ref l]) Q E s := by
  have sz : items.size = ns.length := by rw [← Array.length_toList]; exact IntsAre.length hit
  obtain ⟨c, tl, hmro⟩ := F.called_set.mro
  have f1 := F.called_set.made
  have f2 := F.called_set.sub
  have f3 := F.called_set.notType
  have f4 := F.called_set.canCreate
  have f5 := F.typeCall_set_1 (.ref l)
  refine wpAny_call (codeAny_of_tree ?_)
  show wpAny _ _ (callAny (.type "set") _) _ _ _
  refine wpAny_pure ⟨Code.quiet_builtin _ (by decide +kernel), codeAny_builtin F.entry_type_call ?_⟩
  rw [Around.under_plain (weight_type_call_type "set" [.ref l] []) rfl]
  repeat (any_goals (first | assumption | wp_step))
  refine codeAny_mono (code_set_led1 (.ref l) (E := E) (Q₁ := fun x s1 => x = .ref s.heap.objs.size ∧ s1 = { s with heap := s.heap.push (emp w) }) ⟨rfl, rfl⟩) fun r s1 hr => ?_
  cases r with
  | error e => exact hr
  | ok fl =>
    cases fl with
    | ret x =>
      obtain ⟨rfl, rfl⟩ := hr
      have mine : (s.heap.push (emp w)).get? s.heap.objs.size = some (emp w) := Heap.get?_push_size _ rfl
      have hT : Shared.TypeIs { s with heap := s.heap.push (emp w) } (.ref s.heap.objs.size) "set" := ⟨_, mine, rfl⟩
      have f6 := F.called_set.init.lookup
      have f7 := F.called_set.init.bind (.ref s.heap.objs.size)
      repeat (any_goals (first | assumption | wp_step))
      refine codeAny_mono (codeAny_call_builtin (R := wants (fun r s2 => r = .none ∧ ∃ h' tk c, s2 = { s with heap := h', toks := tk } ∧ SetR w h' s.heap.objs.size (fun j => decide (j ∈ ns)) c ∧ c ≤ ns.length ∧
          ∀ b o, s.heap.get? b = some o → h'.get? b = some o) E) F.called_set.init.plain F.entry_set_init (check_set_init_1 hT ?_)) fun r2 s2 hr2 => ?_
      · obtain ⟨⟨oc, od, oD, os⟩, hol, hcl, nl, hdl⟩ := hl
        simp only at hcl hdl
        subst hcl; subst hdl
        have old : (s.heap.push (emp w)).get? l = some { cls := .type "list", dict := od, data := .seq items nl, slots := os } := Heap.get?_push_of_some _ hol
        have g1 := F.sub_list_set
        have g2 := F.sub_list_frozenset
        have g3 : (Value.type "list" == Value.type "dict") = false := by decide
        have isl : (s.heap.push (emp w)).IsList l items := ⟨_, old, rfl, nl, rfl⟩
        unfold Builtin.«set.__init__» noKeywords Builtin.Frozenset.updateFrom
        generalize hPI : pyIter = PI
        wp_walk
        subst hPI
        refine wpAny_pyIter_list isl (wpAny_bind (wpAny_runValue ?_))
        have lt := Heap.lt_size hol
        have one : (s.heap.push (emp w)).objs.size = s.heap.objs.size + 1 := Heap.size_push ..
        have h3 : A.in1.in1.in1.handled = none := by simp [hh]
        have n1 : l ≠ (s.heap.push (emp w)).objs.size := by rw [one]; exact Nat.ne_of_lt (Nat.lt_succ_of_lt lt)
        have n2 : s.heap.objs.size ∉ [(s.heap.push (emp w)).objs.size, l] := by
          rw [one]
          intro z
          rcases List.mem_cons.mp z with z | z
          · exact absurd z (Nat.ne_of_lt (Nat.lt_succ_self _))
          · exact absurd (List.mem_singleton.mp z).symm (Nat.ne_of_lt lt)
        refine set_update_ints ((Walks.list h3 _ l n1 items).toS) s.heap.objs.size n2 ns sz hb (fun i v hv => ?_) (items.size - 0) 0 _ (by omega) (Nat.zero_le _)
          ⟨⟨_, Heap.get?_push_size _ rfl, rfl, rfl⟩, isl.push _⟩ ⟨0, Nat.le_refl 0, setR_new_at (Heap.get?_push_of_some _ mine)⟩ fun s' c' hm hc' hS' => ?_
        · have hi : i < ns.length := by rw [← sz]; exact (Array.getElem?_eq_some_iff.mp hv).1
          obtain ⟨t, e⟩ := PyProof.Rows.IntsAre.int_at hit i v (by rw [Array.getElem?_toList]; exact hv)
          refine ⟨ns[i], t, List.getElem?_eq_getElem hi, ?_⟩
          rw [e, List.getD_eq_getElem?_getD, List.getElem?_eq_getElem hi] <;> rfl
        · obtain ⟨h', g', d', tk', os'⟩ := s'
          obtain rfl : g' = s.gens := hm.gens
          obtain rfl : d' = s.drawn := hm.drawn
          obtain rfl : os' = s.os := hm.os
          show wpAny _ _ _ _ _ _
          refine wpAny_pure ?_
          show wpAny _ _ (ret Value.none) _ _ _
          rw [sz] at hc'
          refine wpAny_pure ⟨rfl, h', tk', c', rfl, hS', hc', fun b o e => ?_⟩
          have lb := Heap.lt_size e
          refine hm.heap b o (fun z => ?_) (Heap.get?_push_of_some _ (Heap.get?_push_of_some _ e))
          rcases List.mem_cons.mp z with z | z
          · exact absurd z (Nat.ne_of_lt lb)
          · rw [one] at z
            exact absurd (List.mem_singleton.mp z) (Nat.ne_of_lt (Nat.lt_succ_of_lt lb))
      · cases r2 with
        | error e => exact hr2
        | ok fl2 =>
          cases fl2 with
          | ret r =>
            obtain ⟨rfl, h', tk, c', rfl, hS', hc', hk'⟩ := hr2
            repeat (any_goals (first | assumption | wp_step))
            exact h _ _ _ hS' hc' hk'
          | _ => exact hr2.elim
    | _ => exact hr.elim
end
def rSetLI (w : World) (K : PySem.W.Frag) : List V → Hp → VK → Prop := fun vs H Q => ∃ (p : Addr) (ns : List Int), vs = [.ref p] ∧ SqL K H p (ns.map V.int) ∧ ns.length ≤ 1000 ∧
  ∀ (a : Addr) (c : Nat), H a = none → c ≤ ns.length → Q (.ref a) (upd H a (SetO w a (fun j => decide (j ∈ ns)) c))
section
variable {X : Cx} {K : PySem.W.Frag} {w : World}
/-- set(l) of ints -/
theorem call_setL (hK : X.K = K) (hw : X.w = w) (hc : X.calm = true) : CallR X (.type "set") (rSetLI w K) := by
  subst hK hw
  intro pins s σ H xs us Q I r h
  obtain ⟨p, ns, rfl, hq, hz, q⟩ := h
  obtain ⟨u, rfl, rx⟩ := vals1 r
  cases rx
  obtain ⟨its, rv, hl, _⟩ := I.list hq
  refine setL ns (I.ok.hd hc) hl.isList (by simpa using rv.ints) (by unfold scanBound; omega) fun h' tk c hS hle kp => ?_
  exact ⟨.ref s.heap.objs.size, upd H s.heap.objs.size (SetO X.w s.heap.objs.size (fun j => decide (j ∈ ns)) c), I.laid (t' := tk) kp (Nat.le_refl _) (setO_new hS), rfl, q _ _ (I.hok.fresh (Nat.le_refl _)) hle⟩
end
/-! ### lists of pairs, grown -/
section
variable {K : PySem.W.Frag}
theorem lst_no2 {l : List V} (xs : List V) : HO.lst l ≠ .tup xs ∧ ∀ ob, HO.lst l ≠ .frz ob (.tup xs) := ⟨fun z => (by cases z), fun _ z => (by cases z)⟩
def pairP (K : PySem.W.Frag) (H : Hp) (kvs : List (Key × V)) (D : Addr) (j : Nat) (H' : Hp) : Prop := Same H H' ∧ ∃ xs, H' D = some (.lst xs) ∧ Prs K H' xs (kvs.take j)
theorem pairP_0 {H : Hp} {kvs : List (Key × V)} {D : Addr} (hD : H D = none) : pairP K H kvs D 0 (upd H D (.lst [])) := ⟨same_new hD, [], upd_same, .nil⟩
theorem pairP_step {H H' : Hp} {kvs : List (Key × V)} {D N : Addr} {j : Nat} {kv : Key × V} {x y : V} (hl : kvs.length ≤ 1000) (h : pairP K H kvs D j H') (hD : H D = none) (e : kvs[j]? = some kv) (hN : H' N = none) (ex : x = kV kv.1) (ey : y = kv.2) :
    ∃ acc, (upd H' N (.tup [x, y])) D = some (.lst acc) ∧ acc.length < sizeLine ∧ pairP K H kvs D (j + 1) (upd (upd H' N (.tup [x, y])) D (.lst (acc ++ [V.ref N]))) := by
  obtain ⟨hs, xs, hL, hP⟩ := h
  subst ex ey
  have nDN : D ≠ N := ne_of_none hL hN
  have zl : (1000000 : Nat) ≤ sizeLine := line_big
  have len := hP.len
  have tl : (kvs.take j).length ≤ kvs.length := List.length_take_le' _ _
  have hL2 : (upd H' N (.tup [kV kv.1, kv.2])) D = some (.lst xs) := by rw [upd_ne nDN]; exact hL
  refine ⟨xs, hL2, by omega, fun c o q => ?_, xs ++ [V.ref N], upd_same, ?_⟩
  · rw [upd_ne (ne_of_none q hD), upd_ne (ne_of_none (hs _ _ q) hN)]
    exact hs _ _ q
  · rw [List.take_succ, e]
    have b1 : But D (upd H' N (.tup [kV kv.1, kv.2])) (upd (upd H' N (.tup [kV kv.1, kv.2])) D (.lst (xs ++ [V.ref N]))) := But.put
    refine ((hP.up (same_new hN)).but b1 hL2 lst_no2).append (.cons (SqT.of ?_) .nil)
    rw [upd_ne (Ne.symm nDN)]
    exact upd_same
/-- a list of chosen rows, grown -/
def filP (K : PySem.W.Frag) (H : Hp) (p : Key × V → Bool) (kvs : List (Key × V)) (D : Addr) (j : Nat) (H' : Hp) : Prop := Same H H' ∧ ∃ xs, H' D = some (.lst xs) ∧ Prs K H' xs ((kvs.take j).filter p)
theorem filP_0 {H : Hp} {p : Key × V → Bool} {kvs : List (Key × V)} {D : Addr} (hD : H D = none) : filP K H p kvs D 0 (upd H D (.lst [])) := ⟨same_new hD, [], upd_same, .nil⟩
theorem filP_step {H H' : Hp} {p : Key × V → Bool} {kvs : List (Key × V)} {D b : Addr} {j : Nat} {kv : Key × V} (hl : kvs.length ≤ 1000) (h : filP K H p kvs D j H') (hD : H D = none) (e : kvs[j]? = some kv) (hb : SqT K H' b [kV kv.1, kv.2]) :
    if p kv = true then ∃ acc, H' D = some (.lst acc) ∧ acc.length < sizeLine ∧ filP K H p kvs D (j + 1) (upd H' D (.lst (acc ++ [V.ref b]))) else filP K H p kvs D (j + 1) H' := by
  obtain ⟨hs, xs, hL, hP⟩ := h
  have zl : (1000000 : Nat) ≤ sizeLine := line_big
  have len := hP.len
  have tl : (kvs.take j).length ≤ kvs.length := List.length_take_le' _ _
  have fl := List.length_filter_le p (kvs.take j)
  have eq : (kvs.take (j + 1)).filter p = (kvs.take j).filter p ++ (if p kv = true then [kv] else []) := by
    rw [List.take_succ, e, List.filter_append]
    congr 1
    by_cases d : p kv = true
    · rw [if_pos d]; simp only [Option.toList_some, List.filter_cons, d, if_true, List.filter_nil]
    · rw [if_neg d]; simp only [Option.toList_some, List.filter_cons, d, if_false, List.filter_nil, Bool.false_eq_true]
  split
  · rename_i d
    have b1 : But D H' (upd H' D (.lst (xs ++ [V.ref b]))) := But.put
    refine ⟨xs, hL, by omega, fun c o q => ?_, xs ++ [V.ref b], upd_same, ?_⟩
    · rw [upd_ne (ne_of_none q hD)]
      exact hs _ _ q
    · rw [eq, if_pos d]
      have row : Prs K H' [V.ref b] [kv] := .cons hb .nil
      exact (hP.append row).but b1 hL lst_no2
  · rename_i d
    rw [filP, eq, if_neg d, List.append_nil]
    exact ⟨hs, xs, hL, hP⟩
end
/-! ### sorted of pairs of numbers, by their Prs -/
section
variable {X : Cx} {K : PySem.W.Frag}
def rSortedC (K : PySem.W.Frag) : List V → Hp → VK → Prop := fun vs H Q => ∃ (a : Addr) (cs : List (Nat × Nat)), vs = [V.ref a] ∧ PrsAt K H a (cs.map ck) ∧
  ∀ (zs : List V) (ds : List (Nat × Nat)) (p : Addr), ds.Perm cs → ds.Pairwise (fun x y => x.1 ≤ y.1) → Prs K H zs (ds.map ck) → H p = none → Q (.ref p) (upd H p (.lst zs))
theorem Prs.mem {H : Hp} : ∀ {xs : List V} {kvs : List (Key × V)}, Prs K H xs kvs → ∀ x ∈ xs, ∃ kv ∈ kvs, ∃ t, x = .ref t ∧ SqT K H t [kV kv.1, kv.2]
  | _, _, .nil, _, h => nomatch h
  | _, _, .cons (kv := kv) e h, x, hx => by
    rcases List.mem_cons.mp hx with rfl | hx
    · exact ⟨kv, List.mem_cons_self .., _, rfl, e⟩
    · obtain ⟨kv2, m, q⟩ := Prs.mem h x hx
      exact ⟨kv2, List.mem_cons_of_mem _ m, q⟩
theorem Prs.ofMap {H : Hp} (g : V → Key × V) : ∀ ys : List V, (∀ x ∈ ys, ∃ t, x = .ref t ∧ SqT K H t [kV (g x).1, (g x).2]) → Prs K H ys (ys.map g)
  | [], _ => .nil
  | y :: ys, h => by
    obtain ⟨t, rfl, e⟩ := h y (List.mem_cons_self ..)
    exact .cons e (Prs.ofMap g ys fun x hx => h x (List.mem_cons_of_mem _ hx))
theorem Prs.map_eq {H : Hp} {kk : V → Nat × Nat} : ∀ {xs : List V} {cs : List (Nat × Nat)}, Prs K H xs (cs.map ck) → (∀ t c, SqT K H t [.int (c : Nat × Nat).1, .int c.2] → kk (.ref t) = c) → xs.map kk = cs
  | _, [], .nil, _ => rfl
  | _, c :: cs, .cons e h, u => by
    rw [List.map_cons, Prs.map_eq h u, u _ c e]
open Classical in
theorem cr_sortedC (hK : X.K = K) : CallR X (.builtin "sorted") (rSortedC K) := by
  subst hK
  intro pins s σ H vs us Q I r h
  obtain ⟨a, cs, rfl, ⟨xs, pl, prs⟩, q⟩ := h
  let kk : V → Nat × Nat := fun x => if h : ∃ c : Nat × Nat, ∃ t, x = .ref t ∧ SqT X.K H t [.int c.1, .int c.2] then Classical.choose h else (0, 0)
  have uni : ∀ t (c : Nat × Nat), SqT X.K H t [.int c.1, .int c.2] → kk (.ref t) = c := fun t c e => by
    have hx : ∃ c : Nat × Nat, ∃ t', V.ref t = .ref t' ∧ SqT X.K H t' [.int c.1, .int c.2] := ⟨c, t, rfl, e⟩
    show (if h : _ then Classical.choose h else (0, 0)) = c
    rw [dif_pos hx]
    obtain ⟨t', e1, e2⟩ := Classical.choose_spec hx
    cases e1
    have := I.tuple_inj e2 e
    simp only [List.cons.injEq, V.int.injEq, and_true] at this
    exact Prod.ext (Int.ofNat.inj this.1) (Int.ofNat.inj this.2)
  have all : ∀ x ∈ xs, ∃ t, x = V.ref t ∧ SqT X.K H t [.int (kk x).1, .int (kk x).2] := fun x hx => by
    obtain ⟨kv, m, t, rfl, e⟩ := Prs.mem prs x hx
    obtain ⟨c, _, rfl⟩ := List.mem_map.mp m
    have e' : SqT X.K H t [.int c.1, .int c.2] := e
    exact ⟨t, rfl, by rw [uni t c e']; exact e'⟩
  refine cr_sortedPT rfl pins s σ H _ us Q I r ⟨a, xs, fun x => ((kk x).1, (kk x).2), rfl, pl.sqt, all, fun ys p srt stb hp => ?_⟩
  refine q ys (ys.map kk) p ?_ ?_ ?_ hp
  · have := stb.perm.map kk
    rwa [Prs.map_eq prs uni] at this
  · refine List.pairwise_map.mpr (srt.imp fun {x y} z => ?_)
    have := SrtO.lexB_no.mp z
    show (kk x).1 ≤ (kk y).1
    have e1 : ((kk x).1 : Int) ≤ (kk y).1 := by
      simp only at this
      omega
    omega
  · rw [List.map_map]
    refine Prs.ofMap _ ys fun x hx => ?_
    exact all x (stb.perm.mem_iff.mp hx)
end
end So

set_option Elab.async false
set_option linter.all false
set_option maxRecDepth 100000
set_option maxHeartbeats 4000000
namespace K39S
open PySem PySem.Spec PyProof.Rows L2 Rd Dt Dq Pk Ln En Sx Sy So
local macro_rules | `(tactic| walk_at "rd") => `(tactic| try simp only [↓Sy.tTupP_, ↓Sy.rTupP_, ↓Sy.rCatP_, ↓Sy.rSlP_, ↓Sy.rDictT_, ↓Sy.tDGet_, ↓Sy.tDGet1_, ↓Sy.tDIn_, ↓Sy.tDNotIn_, ↓Sy.tMeth_, ↓Sy.tMethKw_, ↓Sy.rSortedS_, ↓Sx.rIsT_, ↓En.tFor_enumT, ↓Sy.tFor_enumL, ↓Rv.tMakeKw_, ↓Prp.tProp_, ↓Lo.tBits_, ↓Lo.tJs_n, ↓Lo.tJs_c, ↓Lo.tFmt_, ↓Lo.gFld_, ↓Lo.tMake_, ↓Lo.rOwn_, ↓Rg.tFor_range3, ↓Rg.tLc_range3, ↓Rg.tLstC_, ↓Rg.tLc_rngV, ↓Le.rNeLE_, ↓Le.rEqLE_, ↓Ls.tLc_str, ↓Ls.sDPut_, ↓Rl.rReprL_, ↓Rl.tCallKS_, ↓Ob.tFld_, ↓Ob.sFld_, ↓tVar_, ↓tC_, ↓tM1, ↓tDNewK_, ↓tOp_, ↓tUn_, ↓rI_, ↓rI0_, ↓rU_, ↓eq_ii, ↓ne_ii, ↓eq_ss, ↓ne_ss, ↓eq_bb, ↓ne_bb, ↓tAndV_, ↓tOrV_, ↓tNotV_, ↓tIf_, ↓tTest_, ↓tB_, ↓tAnd_, ↓tOr_, ↓tNot_, ↓tChain_, ↓tNil_, ↓tCons_, ↓tTup_, ↓tLst_, ↓tCB_, ↓tCall_, ↓tSeq_, ↓tNext_, ↓tRet_, ↓tRetN_, ↓tDrop_, ↓tBreak_, ↓tNever_, ↓tIfS_, ↓tAsg_, ↓gName_, ↓gTup_, ↓gCons_, ↓gNil_, ↓gSub_, ↓tPar_, ↓tPar3_, ↓tSl_, ↓tNoPart_, ↓tPart_, ↓tBM_, ↓tFor_range1, ↓tFor_range2, ↓tFor_list, ↓tFor_tup, L2.start, List.headD_cons, List.headD_nil, List.tail_cons, List.map_cons, List.map_nil, List.length_cons, List.length_nil, List.replicate, List.append_nil, List.nil_append, List.cons_append, List.getElem?_cons_zero, List.getElem?_cons_succ, List.set_cons_zero, List.set_cons_succ, Option.some.injEq, V.int.injEq, V.bl.injEq, V.str.injEq, V.ref.injEq, exists_eq_left, exists_eq_left', exists_eq_right, exists_eq, exists_and_left, and_true, true_and, decide_eq_true_eq, Nat.reduceAdd, Nat.reduceSub, Nat.add_zero, Nat.zero_add, List.cons.injEq, Bool.not_eq_true', decide_eq_false_iff_not, eq_self, reduceCtorEq, Bool.false_eq_true, if_true, if_false, ite_true, ite_false, and_self, ↓tLc_range1, ↓tLc_range2, ↓tLc_list, ↓tLc_tup, ↓tYes_, wipe0, wipe1, ↓tCallS_, ↓rIxL_, ↓rIxT_, ↓rSlL_, ↓rCat_, ↓rSetL_, ↓rRep_, ↓rGcd_, ↓tCallK_, ↓gUnl_, ↓tRaise_, decide_true, decide_false, not_true_eq_false, not_false_eq_true, false_and, or_false, false_or, and_false, and_assoc, exists_const, forall_const, forall_eq'])
section
variable {P : Program} {w : World} {K : PySem.W.Frag} {mg : Str → Option Value} {base : Heap}
/-! ### stores looked at; parts -/
theorem make_same {H H2 : Hp} {x dx : Addr} {o o2 : HO} (h1 : H x = none) (h2 : H dx = none) (b : But x (upd (upd H dx o) x o2) H2) : Same H H2 := fun a v e => by
  have n1 : a ≠ x := fun z => by rw [z, h1] at e; cases e
  have n2 : a ≠ dx := fun z => by rw [z, h2] at e; cases e
  exact b a v n1 (by rw [upd_ne n1, upd_ne n2]; exact e)
theorem PrsAt.make {H : Hp} {x dx : Addr} {o o2 : HO} (h1 : H x = none) (h2 : H dx = none) {a : Addr} {kvs : List (Key × V)} (h : PrsAt K H a kvs) : PrsAt K (upd (upd H dx o) x o2) a kvs := h.up (make_same h1 h2 But.refl)
theorem kit_self {C : Addr} : PySem.W.kitOne K (.ref C) (.ref C) = some true := by unfold PySem.W.kitOne; rw [if_pos (by exact beq_self_eq_true _)]
def spChk (K : PySem.W.Frag) (C : Addr) : Sp := fun vs H Q _ => ∃ (r : Addr) (ns cs : List (Nat × Nat)), vs = [.ref r] ∧ StA K C H r ns cs ∧ Q .non H
theorem sc_chk : FnScope ["value"] ["value"] (defScope (top 26)) := ⟨rfl, rfl, rfl, by decide +kernel, rfl, by decide +kernel, by decide +kernel⟩
theorem ok_chk {f C fi : Addr} {fd : FuncData} (T : Tx mg) (L : StM K mg C fi) (F : FD K "check_store" (top 26) f fd) : FnOk P w K mg base CX0 1 f fd ["value"] (spChk K C) := by
  refine F.ok sc_chk (fun vs H Q E h => ?_) (fun cdv A outer s H vs Q E hr h => ?_)
  · obtain ⟨_, _, _, rfl, _⟩ := h
    rfl
  · obtain ⟨r, ns, cs, rfl, ⟨dx, an, ac, dp, da, hr0, _⟩, k⟩ := h
    have nd := sc_chk.nd
    refine ⟨_, (pss_one (ps_if (pt_not (pt_val (pe_callB call_isi (by rfl) T.b_isinstance (by decide +kernel) (pa_cons (pv 0) (pa_cons (pe_glob (v := .ref C) rfl L.g rfl) pa_nil))))) (pss_one ps_never) pss_nil)), ?_⟩
    walk_at "rd"
    exact ⟨_, _, .ref C, .ref C, true, rfl, .own C, .base (.ins hr0 L.own.cl L.own.ha L.own.hn L.own.ht L.own.hm), kit_self, true, rfl, k⟩
def cpP (H0 : Hp) (r pa : Addr) (ps : List Nat) (i : Nat) : L2.St → Hp → Prop := fun σ H => Same H0 H ∧ ∃ (l : Nat) (x y : Option V), (∀ c, ps[i]? = some c → l < c) ∧ σ = [some (.ref r), some (.ref pa), some (.int l), x, y]
abbrev vN (p : Nat) : V := .int p
def spCp (K : PySem.W.Frag) (C : Addr) : Sp := fun vs H Q _ => ∃ (r pa : Addr) (ns cs : List (Nat × Nat)) (ps : List Nat), vs = [.ref r, .ref pa] ∧ StA K C H r ns cs ∧ SqT K H pa (ps.map vN) ∧ ps.Pairwise (· < ·) ∧ (∀ p ∈ ps, 1 ≤ p ∧ p ≤ 999 ∧ (look cs p).isSome = true) ∧ ∀ H', Same H H' → Q .non H'
def selC (ps : List Nat) (b : Bool) (cs : List (Nat × Nat)) : List (Nat × Nat) := cs.filter fun c => decide (c.1 ∈ ps) == b
theorem selC_ok {ps : List Nat} {b : Bool} {cs : List (Nat × Nat)} (h : ClOk cs) : ClOk (selC ps b cs) :=
  ⟨Nat.le_trans (List.length_filter_le _ _) h.1, fun c hc => h.2.1 c (List.mem_filter.mp hc).1, h.2.2.sublist List.filter_sublist⟩
/-- the chosen places as a dict -/
def chK (p : Nat) : Key × V := (.inl p, .bl true)
theorem ch_look (ps : List Nat) (k : Nat) : (valV (ps.map chK) (.inl (k : Int) : Key)).isSome = decide (k ∈ ps) := by
  unfold valV
  rw [Option.isSome_map, List.find?_map, Option.isSome_map, Bool.eq_iff_iff, List.find?_isSome, decide_eq_true_eq]
  constructor
  · rintro ⟨x, hx, e⟩
    have : (Sum.inl (x : Int) : Key) = .inl (k : Int) := of_decide_eq_true e
    injection this with this
    rw [← Int.ofNat.inj this]
    exact hx
  · intro hx
    exact ⟨k, hx, decide_eq_true rfl⟩
theorem ch_merge {ps : List Nat} (h : ps.Pairwise (· < ·)) : mergeK [] (ps.map chK) = ps.map chK :=
  merge_new _ [] (fun _ hx => nomatch hx) (List.pairwise_map.mpr (h.imp fun {a b} q z => by
    have : (Sum.inl (a : Int) : Key) = .inl (b : Int) := z
    injection this with this
    omega))
def spPart (K : PySem.W.Frag) (C : Addr) : Sp := fun vs H Q _ => ∃ (r pa : Addr) (b : Bool) (ns cs : List (Nat × Nat)) (ps : List Nat), vs = [.ref r, .ref pa, .bl b] ∧ StA K C H r ns cs ∧ SqT K H pa (ps.map vN) ∧ ps.length ≤ 500 ∧ ps.Pairwise (· < ·) ∧
  ∀ (r' : Addr) (H' : Hp), Same H H' → StA K C H' r' ns (selC ps b cs) → Q (.ref r') H'
def spPw (K : PySem.W.Frag) (C : Addr) (b : Bool) : Sp := fun vs H Q _ => ∃ (r pa : Addr) (ns cs : List (Nat × Nat)) (ps : List Nat), vs = [.ref r, .ref pa] ∧ StA K C H r ns cs ∧ SqT K H pa (ps.map vN) ∧ ps.length ≤ 500 ∧ ps.Pairwise (· < ·) ∧ (∀ p ∈ ps, 1 ≤ p ∧ p ≤ 999 ∧ (look cs p).isSome = true) ∧
  ∀ (r' : Addr) (H' : Hp), Same H H' → StA K C H' r' ns (selC ps b cs) → Q (.ref r') H'
end
end K39S

set_option Elab.async false
set_option linter.all false
set_option maxRecDepth 100000
set_option maxHeartbeats 4000000
namespace K39S
open PySem PySem.Spec PyProof.Rows L2 Rd Dt Dq Pk Ln En Sx Sy So
local macro_rules | `(tactic| walk_at "rd") => `(tactic| try simp only [↓Sy.tTupP_, ↓Sy.rTupP_, ↓Sy.rCatP_, ↓Sy.rSlP_, ↓Sy.rDictT_, ↓Sy.tDGet_, ↓Sy.tDGet1_, ↓Sy.tDIn_, ↓Sy.tDNotIn_, ↓Sy.tMeth_, ↓Sy.tMethKw_, ↓Sy.rSortedS_, ↓Sx.rIsT_, ↓En.tFor_enumT, ↓Sy.tFor_enumL, ↓Rv.tMakeKw_, ↓Prp.tProp_, ↓Lo.tBits_, ↓Lo.tJs_n, ↓Lo.tJs_c, ↓Lo.tFmt_, ↓Lo.gFld_, ↓Lo.tMake_, ↓Lo.rOwn_, ↓Rg.tFor_range3, ↓Rg.tLc_range3, ↓Rg.tLstC_, ↓Rg.tLc_rngV, ↓Le.rNeLE_, ↓Le.rEqLE_, ↓Ls.tLc_str, ↓Ls.sDPut_, ↓Rl.rReprL_, ↓Rl.tCallKS_, ↓Ob.tFld_, ↓Ob.sFld_, ↓tVar_, ↓tC_, ↓tM1, ↓tDNewK_, ↓tOp_, ↓tUn_, ↓rI_, ↓rI0_, ↓rU_, ↓eq_ii, ↓ne_ii, ↓eq_ss, ↓ne_ss, ↓eq_bb, ↓ne_bb, ↓tAndV_, ↓tOrV_, ↓tNotV_, ↓tIf_, ↓tTest_, ↓tB_, ↓tAnd_, ↓tOr_, ↓tNot_, ↓tChain_, ↓tNil_, ↓tCons_, ↓tTup_, ↓tLst_, ↓tCB_, ↓tCall_, ↓tSeq_, ↓tNext_, ↓tRet_, ↓tRetN_, ↓tDrop_, ↓tBreak_, ↓tNever_, ↓tIfS_, ↓tAsg_, ↓gName_, ↓gTup_, ↓gCons_, ↓gNil_, ↓gSub_, ↓tPar_, ↓tPar3_, ↓tSl_, ↓tNoPart_, ↓tPart_, ↓tBM_, ↓tFor_range1, ↓tFor_range2, ↓tFor_list, ↓tFor_tup, L2.start, List.headD_cons, List.headD_nil, List.tail_cons, List.map_cons, List.map_nil, List.length_cons, List.length_nil, List.replicate, List.append_nil, List.nil_append, List.cons_append, List.getElem?_cons_zero, List.getElem?_cons_succ, List.set_cons_zero, List.set_cons_succ, Option.some.injEq, V.int.injEq, V.bl.injEq, V.str.injEq, V.ref.injEq, exists_eq_left, exists_eq_left', exists_eq_right, exists_eq, exists_and_left, and_true, true_and, decide_eq_true_eq, Nat.reduceAdd, Nat.reduceSub, Nat.add_zero, Nat.zero_add, List.cons.injEq, Bool.not_eq_true', decide_eq_false_iff_not, eq_self, reduceCtorEq, Bool.false_eq_true, if_true, if_false, ite_true, ite_false, and_self, ↓tLc_range1, ↓tLc_range2, ↓tLc_list, ↓tLc_tup, ↓tYes_, wipe0, wipe1, ↓tCallS_, ↓rIxL_, ↓rIxT_, ↓rSlL_, ↓rCat_, ↓rSetL_, ↓rRep_, ↓rGcd_, ↓tCallK_, ↓gUnl_, ↓tRaise_, decide_true, decide_false, not_true_eq_false, not_false_eq_true, false_and, or_false, false_or, and_false, and_assoc, exists_const, forall_const, forall_eq'])
section
variable {P : Program} {w : World} {K : PySem.W.Frag} {mg : Str → Option Value} {base : Heap}
/-! ### letters drawn -/
abbrev sL (c : Nat) : V := .str (L1 c)
theorem inV_L (c : Nat) (fs : List Nat) : inV (sL c) (fs.map sL) = decide (c ∈ fs) := by
  unfold inV
  rw [List.any_map, Bool.eq_iff_iff, List.any_eq_true, decide_eq_true_eq]
  constructor
  · rintro ⟨x, hx, e⟩
    have : eqV (sL x) (sL c) = true := e
    have e2 : L1 x = L1 c := by simpa [eqV] using this
    rw [← L1_inj e2]
    exact hx
  · intro hx
    exact ⟨c, hx, by show eqV (sL c) (sL c) = true; simp [eqV]⟩
theorem flat_L (fs : List Nat) : (fs.map sL).all flatV = true := by
  rw [List.all_map, List.all_eq_true]
  exact fun _ _ => rfl
def Lets (fs : List Nat) : Prop := fs.Nodup ∧ ∀ c ∈ fs, 97 ≤ c ∧ c ≤ 122
theorem rising_le : ∀ {xs : List Nat} {a : Nat}, risingS (L1 a) (xs.map L1) = true → (a :: xs).Pairwise (· ≤ ·)
  | [], a, _ => List.pairwise_singleton _ _
  | x :: xs, a, h => by
    rw [List.map_cons] at h
    unfold risingS at h
    rw [Bool.and_eq_true] at h
    have h2 := rising_le h.2
    have h1 : a ≤ x := by
      have := h.1
      rw [ltCps_eq, Bool.not_eq_true', decide_eq_false_iff_not] at this
      exact Decidable.by_contra fun z => this (lt_L1 (by omega))
    rw [List.pairwise_cons] at h2 ⊢
    refine ⟨fun y hy => ?_, by rw [List.pairwise_cons]; exact h2⟩
    rcases List.mem_cons.mp hy with rfl | hy
    · exact h1
    · have := h2.1 y hy
      omega
theorem sorted_L {ys : List Str} {fs : List Nat} (hp : ys.Perm (fs.map L1)) (hs : sortedS ys = true) (h : Lets fs) : ∃ cs : List Nat, ys = cs.map L1 ∧ cs.length = fs.length ∧ cs.Pairwise (· < ·) ∧ ∀ c ∈ cs, 97 ≤ c ∧ c ≤ 122 := by
  have e1 : ys = (ys.map fun s => s.cps.toList.headD 0).map L1 := by
    rw [List.map_map]
    refine (List.map_id' ys).symm.trans (List.map_congr_left fun s hs => ?_)
    obtain ⟨c, _, rfl⟩ := List.mem_map.mp (hp.mem_iff.mp hs)
    rfl
  have e2 : (ys.map fun s : Str => s.cps.toList.headD 0).Perm fs := by
    have := hp.map fun s : Str => s.cps.toList.headD 0
    rw [List.map_map] at this
    have e3 : (fs.map ((fun s : Str => s.cps.toList.headD 0) ∘ L1)) = fs := (List.map_congr_left fun c _ => rfl).trans (List.map_id' fs)
    rwa [e3] at this
  generalize (ys.map fun s : Str => s.cps.toList.headD 0) = cs at e1 e2
  subst e1
  refine ⟨cs, rfl, e2.length_eq, ?_, fun c hc => h.2 c (e2.mem_iff.mp hc)⟩
  have nd : cs.Nodup := e2.nodup_iff.mpr h.1
  have le : cs.Pairwise (· ≤ ·) := by
    cases cs with
    | nil => exact .nil
    | cons c cs => exact rising_le hs
  exact (le.and nd).imp fun {a b} q => by have := q.2; omega
def spLets : Sp := fun vs H Q _ => ∃ (u : Addr) (m : Nat), vs = [.ref u, .int m] ∧ WellAt H u ∧ m ≤ 4 ∧ ∀ (p : Addr) (cs : List Nat) (H' : Hp), But u H H' → WellAt H' u → H' p = some (.lst (cs.map sL)) → H p = none → cs.length = m → cs.Pairwise (· < ·) → (∀ c ∈ cs, 97 ≤ c ∧ c ≤ 122) → Q (.ref p) H'
def ltP (H0 : Hp) (u D : Addr) (m : Nat) (i : Nat) : L2.St → Hp → Prop := fun σ H => But u H0 H ∧ WellAt H u ∧ ∃ (fs : List Nat) (v1 v2 v3 : Option V), fs.length = i ∧ Lets fs ∧ H D = some (.lst (fs.map sL)) ∧ σ = [some (.ref u), some (.int m), some (.ref D), v1, v2, v3]
def nrP (H : Hp) (fs tk : List Nat) (D : Addr) (j : Nat) (H' : Hp) : Prop := Same H H' ∧ H' D = some (.lst (((tk.take j).filter fun c => !decide (c ∈ fs)).map sL))
theorem nrP_step {H : Hp} {fs tk : List Nat} {D : Addr} {j : Nat} {H' : Hp} (hl : tk.length ≤ 500) (h : nrP H fs tk D j H') (hD : H D = none) {c : Nat} (hc : tk[j]? = some c) :
    if (!decide (c ∈ fs)) = true then ∃ acc, H' D = some (.lst acc) ∧ acc.length < sizeLine ∧ nrP H fs tk D (j + 1) (upd H' D (.lst (acc ++ [sL c]))) else nrP H fs tk D (j + 1) H' := by
  obtain ⟨hs, hL⟩ := h
  have zl : (1000000 : Nat) ≤ sizeLine := line_big
  have e1 : (tk.take (j + 1)).filter (fun c => !decide (c ∈ fs)) = (tk.take j).filter (fun c => !decide (c ∈ fs)) ++ if (!decide (c ∈ fs)) = true then [c] else [] := by
    rw [List.take_succ, hc, List.filter_append]
    congr 1
    by_cases d : (!decide (c ∈ fs)) = true
    · rw [if_pos d]; simp only [Option.toList_some, List.filter_cons, d, if_true, List.filter_nil]
    · rw [if_neg d]; simp only [Option.toList_some, List.filter_cons, d, if_false, List.filter_nil, Bool.false_eq_true]
  split
  · rename_i d
    refine ⟨_, hL, ?_, fun b o e => ?_, ?_⟩
    · rw [List.length_map]
      have h1 := List.length_filter_le (fun c : Nat => !decide (c ∈ fs)) (tk.take j)
      have h2 : (List.take j tk).length ≤ tk.length := List.length_take_le' _ _
      omega
    · rw [upd_ne (ne_of_none e hD)]; exact hs b o e
    · rw [upd_same, e1, if_pos d, List.map_append]; rfl
  · rename_i d
    refine ⟨hs, ?_⟩
    rw [e1, if_neg d, List.append_nil]
    exact hL
theorem fil_len {fs tk : List Nat} (hf : fs.length < tk.length) (hd : tk.Nodup) : 1 ≤ (tk.filter fun c => !decide (c ∈ fs)).length := by
  refine Decidable.by_contra fun z => ?_
  have e : tk.filter (fun c => !decide (c ∈ fs)) = [] := List.eq_nil_of_length_eq_zero (by omega)
  have sub : ∀ c ∈ tk, c ∈ fs := fun c hc => Decidable.by_contra fun n => by
    have : c ∈ tk.filter (fun c => !decide (c ∈ fs)) := List.mem_filter.mpr ⟨hc, by simp [n]⟩
    rw [e] at this
    cases this
  have := List.Nodup.length_le_of_subset hd sub
  omega
/-! ### places drawn -/
theorem inV_int (c : Int) (fs : List Int) : inV (.int c) (fs.map V.int) = decide (c ∈ fs) := by
  unfold inV
  rw [List.any_map, Bool.eq_iff_iff, List.any_eq_true, decide_eq_true_eq]
  constructor
  · rintro ⟨x, hx, e⟩
    have e2 : x = c := by simpa [eqV] using e
    rw [← e2]
    exact hx
  · intro hx
    exact ⟨c, hx, by simp [eqV]⟩
theorem flat_int (fs : List Int) : (fs.map V.int).all flatV = true := by
  rw [List.all_map, List.all_eq_true]
  exact fun _ _ => rfl
theorem flat_N (fs : List Nat) : (fs.map vN).all flatV = true := by
  rw [List.all_map, List.all_eq_true]
  exact fun _ _ => rfl
def spPlaces : Sp := fun vs H Q _ => ∃ (u : Addr) (m : Nat), vs = [.ref u, .int m] ∧ WellAt H u ∧ 1 ≤ m ∧ m ≤ 20 ∧ ∀ (p : Addr) (ps : List Nat) (H' : Hp), But u H H' → WellAt H' u → H' p = some (.lst (ps.map vN)) → H p = none → ps.length = m → (∀ c ∈ ps, 1 ≤ c ∧ c ≤ 999) → Q (.ref p) H'
def plP (H0 : Hp) (u D : Addr) (m wd : Nat) (i : Nat) : L2.St → Hp → Prop := fun σ H => But u H0 H ∧ WellAt H u ∧ ∃ (fs : List Nat) (v1 v2 v3 : Option V), fs.length = i ∧ (∀ c ∈ fs, 1 ≤ c ∧ c ≤ 999) ∧ H D = some (.lst (fs.map vN)) ∧ σ = [some (.ref u), some (.int m), some (.int wd), some (.ref D), v1, v2, v3]
/-! ### a store drawn -/
theorem putK_len (kvs : List (Key × V)) (k : Key) (v : V) : (putK kvs k v).length ≤ kvs.length + 1 := by
  unfold putK
  split
  · rw [List.length_map]; omega
  · rw [List.length_append]; exact Nat.le_refl _
/-- pairs with unlike first parts, put one by one -/
def putN (ds : List (Nat × Nat)) (k v : Nat) : List (Nat × Nat) := if ds.any (fun d => decide (d.1 = k)) then ds.map (fun d => if d.1 = k then (d.1, v) else d) else ds ++ [(k, v)]
theorem putK_ck (ds : List (Nat × Nat)) (k v : Nat) : putK (ds.map ck) (.inl (k : Int)) (.int v) = (putN ds k v).map ck := by
  unfold putK putN
  have e1 : (ds.map ck).any (fun p => decide (p.1 = (.inl (k : Int) : Key))) = ds.any (fun d => decide (d.1 = k)) := by
    rw [List.any_map]
    congr 1
    funext d
    show decide ((Sum.inl (d.1 : Int) : Key) = .inl (k : Int)) = _
    rw [decide_eq_decide]
    exact ⟨fun z => by injection z with z; omega, fun z => by rw [z]⟩
  rw [e1]
  split
  · rw [List.map_map, List.map_map]
    refine List.map_congr_left fun d _ => ?_
    show (if (Sum.inl (d.1 : Int) : Key) = .inl (k : Int) then _ else _) = ck (if d.1 = k then (d.1, v) else d)
    by_cases c : d.1 = k
    · rw [if_pos c, if_pos (by rw [c])]; rfl
    · rw [if_neg c, if_neg (fun z => c (by injection z with z; omega))]
  · rw [List.map_append]; rfl
def DcOk (m : Nat) (ds : List (Nat × Nat)) : Prop := ds.length ≤ m ∧ (∀ c ∈ ds, 1 ≤ c.1 ∧ c.1 ≤ 999 ∧ c.2 ≤ 999) ∧ (ds.map (·.1)).Nodup
theorem putN_ok {m : Nat} {ds : List (Nat × Nat)} {k v : Nat} (h : DcOk m ds) (k1 : 1 ≤ k) (k2 : k ≤ 999) (v1 : v ≤ 999) : DcOk (m + 1) (putN ds k v) := by
  obtain ⟨h1, h2, h3⟩ := h
  unfold putN
  split
  · refine ⟨by rw [List.length_map]; omega, fun c hc => ?_, ?_⟩
    · obtain ⟨d, hd, rfl⟩ := List.mem_map.mp hc
      have := h2 d hd
      split
      · exact ⟨this.1, this.2.1, v1⟩
      · exact this
    · rw [List.map_map]
      have : ((fun x : Nat × Nat => x.1) ∘ fun d : Nat × Nat => if d.1 = k then (d.1, v) else d) = fun x => x.1 := by
        funext d
        show (if d.1 = k then (d.1, v) else d).1 = d.1
        split <;> rfl
      rw [this]
      exact h3
  · rename_i hn
    refine ⟨by rw [List.length_append]; exact Nat.succ_le_succ h1, fun c hc => ?_, ?_⟩
    · rcases List.mem_append.mp hc with hc | hc
      · exact h2 c hc
      · rw [List.mem_singleton.mp hc]; exact ⟨k1, k2, v1⟩
    · rw [List.map_append, List.nodup_append]
      refine ⟨h3, by simp, fun a ha b hb z => ?_⟩
      obtain ⟨d, hd, rfl⟩ := List.mem_map.mp ha
      have hb : b ∈ [k] := hb
      rw [List.mem_singleton.mp hb] at z
      exact hn (List.any_eq_true.mpr ⟨d, hd, decide_eq_true z⟩)
/-- the law's store: names and cells in dicts -/
def LSt (m : Nat) (H : Hp) (a dn dc : Addr) (ns ds : List (Nat × Nat)) : Prop := H a = some (.lst [.ref dn, .ref dc]) ∧ H dn = some (.dK (ns.map nk)) ∧ H dc = some (.dK (ds.map ck)) ∧ NmOk ns ∧ DcOk m ds
theorem cut_to {xs : List V} {i : Int} (h : 0 ≤ i ∧ i ≤ xs.length) : cutV xs none (some i) = xs.take i.toNat := by
  obtain ⟨j, rfl⟩ : ∃ j : Nat, i = j := ⟨i.toNat, by omega⟩
  unfold cutV
  rw [HT.sIx_nat, HT.sIx_none, List.drop_zero, Nat.sub_zero, Nat.min_eq_left (by omega), Int.toNat_natCast]
theorem cut_from {xs : List V} {i : Int} (h : 0 ≤ i ∧ i ≤ xs.length) : cutV xs (some i) none = xs.drop i.toNat := by
  obtain ⟨j, rfl⟩ : ∃ j : Nat, i = j := ⟨i.toNat, by omega⟩
  unfold cutV
  rw [HT.sIx_nat, HT.sIx_none, Nat.min_eq_left (by omega), List.take_of_length_le (by rw [List.length_drop]; omega), Int.toNat_natCast]
def spStore : Sp := fun vs H Q _ => ∃ (u lt : Addr) (ls : List Nat) (m : Nat), vs = [.ref u, .ref lt, .int m] ∧ WellAt H u ∧ H lt = some (.lst (ls.map sL)) ∧ 1 ≤ ls.length ∧ ls.length ≤ 4 ∧ ls.Pairwise (· < ·) ∧ (∀ c ∈ ls, 97 ≤ c ∧ c ≤ 122) ∧ m ≤ 9 ∧
  ∀ (a dn dc : Addr) (ns ds : List (Nat × Nat)) (H' : Hp), But u H H' → WellAt H' u → LSt m H' a dn dc ns ds → ns.map (·.1) = ls → a ≠ u → dn ≠ u → dc ≠ u → H dn = none → dn ≠ dc → Q (.ref a) H'
theorem sc_so : FnScope ["_law_mine", "_law_heads", "_law_sign", "_law_spot"] ["_law_mine"] (defScope (top 45)) := ⟨rfl, rfl, rfl, by decide +kernel, rfl, by decide +kernel, by decide +kernel⟩
end
end K39S

set_option Elab.async false
set_option linter.all false
set_option maxRecDepth 100000
set_option maxHeartbeats 2000000
/-! pairs in the order of their first parts; a store's text in one join -/
namespace Sr
open PySem PySem.Spec PyProof.Rows L2 Rd Dt Pk Ln En Sx TL
theorem joinL_app (S : List Nat) (b : List (List Nat)) (hb : b ≠ []) : ∀ a : List (List Nat), a ≠ [] → joinL S (a ++ b) = joinL S a ++ (S ++ joinL S b)
  | [], h => absurd rfl h
  | [x], _ => by
    cases b with
    | nil => exact absurd rfl hb
    | cons y r => rfl
  | x :: y :: r, _ => by
    have ih := joinL_app S b hb (y :: r) (by simp)
    show x ++ (S ++ joinL S (y :: r ++ b)) = x ++ (S ++ joinL S (y :: r)) ++ (S ++ joinL S b)
    rw [ih]
    simp only [List.append_assoc]
theorem store_join {ns cs : List (Nat × Nat)} (h : ns ≠ []) : Txt.join " " (ns.map nameW ++ [("|" : Str)] ++ (if cs = [] then [("none" : Str)] else cs.map cellW)) = storeT ns cs := by
  refine ext_tl ?_
  have hm : (ns.map nameW).map tl ≠ [] := by simp [h]
  unfold storeT namesT cellsT
  rw [join_eq, tl_join, tl_append, tl_append, join_eq, tl_join, List.map_append, List.map_append, List.append_assoc, joinL_app _ _ (by simp) _ hm]
  have e1 : tl " " = [32] := by decide +kernel
  have e2 : tl "|" = [124] := by decide +kernel
  rw [e1, tl_bar]
  by_cases c : cs = []
  · rw [if_pos c, if_pos c]
    show _ ++ ([32] ++ (tl "|" ++ ([32] ++ tl "none"))) = _
    rw [e2]
    simp only [List.append_assoc, List.cons_append, List.nil_append]
  · rw [if_neg c, if_neg c, join_eq, tl_join, e1]
    have e3 : (cs.map cellW).map tl ≠ [] := by simp [c]
    rw [joinL_app _ _ e3 _ (by simp)]
    show _ ++ ([32] ++ (tl "|" ++ ([32] ++ _))) = _
    rw [e2]
    simp only [List.append_assoc, List.cons_append, List.nil_append]
/-- the pairs in order -/
def srt (ds : List (Nat × Nat)) : List (Nat × Nat) := ds.mergeSort fun a b => decide (a.1 ≤ b.1)
theorem srt_perm (ds : List (Nat × Nat)) : (srt ds).Perm ds := List.mergeSort_perm _ _
theorem srt_le (ds : List (Nat × Nat)) : (srt ds).Pairwise fun a b => a.1 ≤ b.1 :=
  (List.pairwise_mergeSort (le := fun a b : Nat × Nat => decide (a.1 ≤ b.1)) (fun a b c h1 h2 => by simp only [decide_eq_true_eq] at *; omega) (fun a b => by simp only [Bool.or_eq_true, decide_eq_true_eq]; omega) ds).imp fun {a b} h => of_decide_eq_true h
theorem srt_asc {ds : List (Nat × Nat)} (h : (ds.map (·.1)).Nodup) : Asc (srt ds) := by
  have n : ((srt ds).map (·.1)).Nodup := ((srt_perm ds).map _).nodup_iff.mpr h
  have n2 : (srt ds).Pairwise fun x y => x.1 ≠ y.1 := List.pairwise_map.mp n
  exact ((srt_le ds).and n2).imp fun {a b} q => by have := q.1; have := q.2; omega
theorem srt_keys {ds : List (Nat × Nat)} {ys : List Int} (p : ys.Perm (ds.map fun d => (d.1 : Int))) (h : ys.Pairwise (· ≤ ·)) : ys = (srt ds).map fun d => (d.1 : Int) := by
  refine List.Perm.eq_of_pairwise (le := fun x y : Int => x ≤ y) (fun a b _ _ q r => by omega) h ?_ (p.trans ((srt_perm ds).symm.map _))
  exact List.pairwise_map.mpr ((srt_le ds).imp fun {a b} q => by omega)
theorem srt_len (ds : List (Nat × Nat)) : (srt ds).length = ds.length := (srt_perm ds).length_eq
theorem srt_nil {ds : List (Nat × Nat)} : srt ds = [] ↔ ds = [] := by
  rw [← List.length_eq_zero_iff, ← List.length_eq_zero_iff, srt_len]
theorem asc_uniq {ds es : List (Nat × Nat)} (h1 : Asc ds) (h2 : Asc es) (p : ds.Perm es) : ds = es :=
  List.Perm.eq_of_pairwise (le := fun x y : Nat × Nat => x.1 < y.1) (fun a b _ _ q r => by omega) h1 h2 p
theorem srt_asc_id {ds : List (Nat × Nat)} (h : Asc ds) : srt ds = ds :=
  asc_uniq (srt_asc (List.pairwise_map.mpr (h.imp fun {a b} q => by omega))) h (srt_perm ds)
theorem look_mem : ∀ {ds : List (Nat × Nat)}, (ds.map (·.1)).Nodup → ∀ {d : Nat × Nat}, d ∈ ds → look ds d.1 = some d.2
  | c :: ds, h, d, hd => by
    rw [List.map_cons, List.nodup_cons] at h
    unfold look
    rw [List.find?_cons]
    by_cases e : c.1 = d.1
    · rw [decide_eq_true e]
      rcases List.mem_cons.mp hd with rfl | hd
      · rfl
      · exact absurd (List.mem_map.mpr ⟨d, hd, e.symm⟩) h.1
    · rw [decide_eq_false e]
      rcases List.mem_cons.mp hd with rfl | hd
      · exact absurd rfl e
      · exact look_mem h.2 hd
theorem look_none {cs : List (Nat × Nat)} {p : Nat} : look cs p = none ↔ ∀ c ∈ cs, c.1 ≠ p := by
  unfold look
  rw [Option.map_eq_none_iff, List.find?_eq_none]
  constructor
  · intro h c hc
    simpa using h c hc
  · intro h c hc
    simpa using h c hc
theorem look_some {cs : List (Nat × Nat)} {p : Nat} : (look cs p).isSome = true ↔ ∃ c ∈ cs, c.1 = p := by
  constructor
  · intro h
    refine Decidable.by_contra fun z => ?_
    have : look cs p = none := look_none.mpr fun c hc e => z ⟨c, hc, e⟩
    rw [this] at h
    cases h
  · rintro ⟨c, hc, e⟩
    cases el : look cs p with
    | none => exact absurd e (look_none.mp el c hc)
    | some v => rfl
end Sr

set_option Elab.async false
set_option linter.all false
set_option maxRecDepth 100000
set_option maxHeartbeats 4000000
namespace K39S
open PySem PySem.Spec PyProof.Rows L2 Rd Dt Dq Pk Ln En Sx Sy So Sr
local macro_rules | `(tactic| walk_at "rd") => `(tactic| try simp only [↓Sy.tTupP_, ↓Sy.rTupP_, ↓Sy.rCatP_, ↓Sy.rSlP_, ↓Sy.rDictT_, ↓Sy.tDGet_, ↓Sy.tDGet1_, ↓Sy.tDIn_, ↓Sy.tDNotIn_, ↓Sy.tMeth_, ↓Sy.tMethKw_, ↓Sy.rSortedS_, ↓Sx.rIsT_, ↓En.tFor_enumT, ↓Sy.tFor_enumL, ↓Rv.tMakeKw_, ↓Prp.tProp_, ↓Lo.tBits_, ↓Lo.tJs_n, ↓Lo.tJs_c, ↓Lo.tFmt_, ↓Lo.gFld_, ↓Lo.tMake_, ↓Lo.rOwn_, ↓Rg.tFor_range3, ↓Rg.tLc_range3, ↓Rg.tLstC_, ↓Rg.tLc_rngV, ↓Le.rNeLE_, ↓Le.rEqLE_, ↓Ls.tLc_str, ↓Ls.sDPut_, ↓Rl.rReprL_, ↓Rl.tCallKS_, ↓Ob.tFld_, ↓Ob.sFld_, ↓tVar_, ↓tC_, ↓tM1, ↓tDNewK_, ↓tOp_, ↓tUn_, ↓rI_, ↓rI0_, ↓rU_, ↓eq_ii, ↓ne_ii, ↓eq_ss, ↓ne_ss, ↓eq_bb, ↓ne_bb, ↓tAndV_, ↓tOrV_, ↓tNotV_, ↓tIf_, ↓tTest_, ↓tB_, ↓tAnd_, ↓tOr_, ↓tNot_, ↓tChain_, ↓tNil_, ↓tCons_, ↓tTup_, ↓tLst_, ↓tCB_, ↓tCall_, ↓tSeq_, ↓tNext_, ↓tRet_, ↓tRetN_, ↓tDrop_, ↓tBreak_, ↓tNever_, ↓tIfS_, ↓tAsg_, ↓gName_, ↓gTup_, ↓gCons_, ↓gNil_, ↓gSub_, ↓tPar_, ↓tPar3_, ↓tSl_, ↓tNoPart_, ↓tPart_, ↓tBM_, ↓tFor_range1, ↓tFor_range2, ↓tFor_list, ↓tFor_tup, L2.start, List.headD_cons, List.headD_nil, List.tail_cons, List.map_cons, List.map_nil, List.length_cons, List.length_nil, List.replicate, List.append_nil, List.nil_append, List.cons_append, List.getElem?_cons_zero, List.getElem?_cons_succ, List.set_cons_zero, List.set_cons_succ, Option.some.injEq, V.int.injEq, V.bl.injEq, V.str.injEq, V.ref.injEq, exists_eq_left, exists_eq_left', exists_eq_right, exists_eq, exists_and_left, and_true, true_and, decide_eq_true_eq, Nat.reduceAdd, Nat.reduceSub, Nat.add_zero, Nat.zero_add, List.cons.injEq, Bool.not_eq_true', decide_eq_false_iff_not, eq_self, reduceCtorEq, Bool.false_eq_true, if_true, if_false, ite_true, ite_false, and_self, ↓tLc_range1, ↓tLc_range2, ↓tLc_list, ↓tLc_tup, ↓tYes_, wipe0, wipe1, ↓tCallS_, ↓rIxL_, ↓rIxT_, ↓rSlL_, ↓rCat_, ↓rSetL_, ↓rRep_, ↓rGcd_, ↓tCallK_, ↓gUnl_, ↓tRaise_, decide_true, decide_false, not_true_eq_false, not_false_eq_true, false_and, or_false, false_or, and_false, and_assoc, exists_const, forall_const, forall_eq'])
section
variable {P : Program} {w : World} {K : PySem.W.Frag} {mg : Str → Option Value} {base : Heap}
/-! ### the law's text, its store, its parts -/
def spTxt : Sp := fun vs H Q _ => ∃ (m : Nat) (a dn dc : Addr) (ns ds : List (Nat × Nat)), vs = [.ref a] ∧ LSt m H a dn dc ns ds ∧ m ≤ 120 ∧ ∀ H', Same H H' → Q (.str (storeT ns (srt ds))) H'
theorem DcOk.cl {m : Nat} {ds : List (Nat × Nat)} (h : DcOk m ds) (hm : m ≤ 120) : ClOk (srt ds) := ⟨by rw [srt_len]; have := h.1; omega, fun c hc => h.2.1 c ((srt_perm ds).mem_iff.mp hc), srt_asc h.2.2⟩
theorem sorted_names {ns : List (Nat × Nat)} (h : NmOk ns) {ys : List Str} (p : ys.Perm (ns.map fun n => L1 n.1)) (s : sortedS ys = true) : ys = ns.map fun n => L1 n.1 := by
  have e0 : (ns.map fun n => L1 n.1) = (ns.map (·.1)).map L1 := by rw [List.map_map]; rfl
  have asc : (ns.map (·.1)).Pairwise (· < ·) := List.pairwise_map.mpr h.2.2.2
  rw [e0] at p ⊢
  obtain ⟨cs, rfl, e1, e2, _⟩ := sorted_L p s ⟨asc.imp fun {a b} q => by omega, fun c hc => by
    obtain ⟨n, hn, rfl⟩ := List.mem_map.mp hc
    have := h.2.2.1 n hn
    exact ⟨this.1, this.2.1⟩⟩
  have q := p.map fun s : Str => s.cps.toList.headD 0
  rw [List.map_map, List.map_map] at q
  have e3 : ∀ l : List Nat, l.map ((fun s : Str => s.cps.toList.headD 0) ∘ L1) = l := fun l => (List.map_congr_left fun c _ => rfl).trans (List.map_id' l)
  rw [e3, e3] at q
  rw [List.Perm.eq_of_pairwise (le := fun x y : Nat => x < y) (fun a b _ _ q r => by omega) e2 asc q]
theorem asc_nodup {cs : List (Nat × Nat)} (h : Asc cs) : (cs.map (·.1)).Nodup := List.pairwise_map.mpr (h.imp fun {a b} q => by omega)
theorem get_n {H : Hp} {dn : Addr} {ns : List (Nat × Nat)} (h : H dn = some (.dK (ns.map nk))) (asc : Asc ns) {n : Nat × Nat} (hn : n ∈ ns) : DGet H dn (.str (L1 n.1)) (some (.int n.2)) := by
  have := DGet.k (k := Sum.inr (L1 n.1)) h
  rw [val_n, look_mem (asc_nodup asc) hn] at this
  exact this
theorem get_d {H : Hp} {dc : Addr} {ds : List (Nat × Nat)} (h : H dc = some (.dK (ds.map ck))) (nd : (ds.map (·.1)).Nodup) {d : Nat × Nat} (hd : d ∈ ds) : DGet H dc (.int d.1) (some (.int d.2)) := by
  have := get_c h d.1
  rw [look_mem nd hd] at this
  exact this
theorem keys_n (ns : List (Nat × Nat)) : (ns.map nk).map (·.1) = (ns.map fun n => L1 n.1).map (Sum.inr : Str → Key) := by rw [List.map_map, List.map_map]; rfl
theorem keys_c (ds : List (Nat × Nat)) : (ds.map ck).map (·.1) = (ds.map fun d => (d.1 : Int)).map (Sum.inl : Int → Key) := by rw [List.map_map, List.map_map]; rfl
end
end K39S

set_option Elab.async false
set_option linter.all false
set_option maxRecDepth 100000
set_option maxHeartbeats 4000000
namespace K39S
open PySem PySem.Spec PyProof.Rows L2 Rd Dt Dq Pk Ln En Sx Sy So Sr
local macro_rules | `(tactic| walk_at "rd") => `(tactic| try simp only [↓Sy.tTupP_, ↓Sy.rTupP_, ↓Sy.rCatP_, ↓Sy.rSlP_, ↓Sy.rDictT_, ↓Sy.tDGet_, ↓Sy.tDGet1_, ↓Sy.tDIn_, ↓Sy.tDNotIn_, ↓Sy.tMeth_, ↓Sy.tMethKw_, ↓Sy.rSortedS_, ↓Sx.rIsT_, ↓En.tFor_enumT, ↓Sy.tFor_enumL, ↓Rv.tMakeKw_, ↓Prp.tProp_, ↓Lo.tBits_, ↓Lo.tJs_n, ↓Lo.tJs_c, ↓Lo.tFmt_, ↓Lo.gFld_, ↓Lo.tMake_, ↓Lo.rOwn_, ↓Rg.tFor_range3, ↓Rg.tLc_range3, ↓Rg.tLstC_, ↓Rg.tLc_rngV, ↓Le.rNeLE_, ↓Le.rEqLE_, ↓Ls.tLc_str, ↓Ls.sDPut_, ↓Rl.rReprL_, ↓Rl.tCallKS_, ↓Ob.tFld_, ↓Ob.sFld_, ↓tVar_, ↓tC_, ↓tM1, ↓tDNewK_, ↓tOp_, ↓tUn_, ↓rI_, ↓rI0_, ↓rU_, ↓eq_ii, ↓ne_ii, ↓eq_ss, ↓ne_ss, ↓eq_bb, ↓ne_bb, ↓tAndV_, ↓tOrV_, ↓tNotV_, ↓tIf_, ↓tTest_, ↓tB_, ↓tAnd_, ↓tOr_, ↓tNot_, ↓tChain_, ↓tNil_, ↓tCons_, ↓tTup_, ↓tLst_, ↓tCB_, ↓tCall_, ↓tSeq_, ↓tNext_, ↓tRet_, ↓tRetN_, ↓tDrop_, ↓tBreak_, ↓tNever_, ↓tIfS_, ↓tAsg_, ↓gName_, ↓gTup_, ↓gCons_, ↓gNil_, ↓gSub_, ↓tPar_, ↓tPar3_, ↓tSl_, ↓tNoPart_, ↓tPart_, ↓tBM_, ↓tFor_range1, ↓tFor_range2, ↓tFor_list, ↓tFor_tup, L2.start, List.headD_cons, List.headD_nil, List.tail_cons, List.map_cons, List.map_nil, List.length_cons, List.length_nil, List.replicate, List.append_nil, List.nil_append, List.cons_append, List.getElem?_cons_zero, List.getElem?_cons_succ, List.set_cons_zero, List.set_cons_succ, Option.some.injEq, V.int.injEq, V.bl.injEq, V.str.injEq, V.ref.injEq, exists_eq_left, exists_eq_left', exists_eq_right, exists_eq, exists_and_left, and_true, true_and, decide_eq_true_eq, Nat.reduceAdd, Nat.reduceSub, Nat.add_zero, Nat.zero_add, List.cons.injEq, Bool.not_eq_true', decide_eq_false_iff_not, eq_self, reduceCtorEq, Bool.false_eq_true, if_true, if_false, ite_true, ite_false, and_self, ↓tLc_range1, ↓tLc_range2, ↓tLc_list, ↓tLc_tup, ↓tYes_, wipe0, wipe1, ↓tCallS_, ↓rIxL_, ↓rIxT_, ↓rSlL_, ↓rCat_, ↓rSetL_, ↓rRep_, ↓rGcd_, ↓tCallK_, ↓gUnl_, ↓tRaise_, decide_true, decide_false, not_true_eq_false, not_false_eq_true, false_and, or_false, false_or, and_false, and_assoc, exists_const, forall_const, forall_eq'])
section
variable {P : Program} {w : World} {K : PySem.W.Frag} {mg : Str → Option Value} {base : Heap}
/-! ### the package's store made, parts made -/
def spMade (K : PySem.W.Frag) (C : Addr) : Sp := fun vs H Q _ => ∃ (m : Nat) (a dn dc : Addr) (ns ds : List (Nat × Nat)), vs = [.ref a] ∧ LSt m H a dn dc ns ds ∧ m ≤ 120 ∧ ∀ r H', Same H H' → StA K C H' r ns (srt ds) → Q (.ref r) H'
def spPrt : Sp := fun vs H Q _ => ∃ (m : Nat) (a dn dc sp : Addr) (ns ds : List (Nat × Nat)) (ps : List Nat), vs = [.ref a, .ref sp] ∧ LSt m H a dn dc ns ds ∧ m ≤ 120 ∧ H sp = some (.lst (ps.map vN)) ∧ ps.length ≤ m ∧ ps.Pairwise (· < ·) ∧ (∀ p ∈ ps, p ∈ ds.map (·.1)) ∧
  ∀ (a' dn' dc' : Addr) (es : List (Nat × Nat)) H', Same H H' → LSt m H' a' dn' dc' ns es → es.map (·.1) = ps → (∀ e ∈ es, e ∈ ds) → Q (.ref a') H'
end
end K39S

set_option Elab.async false
set_option linter.all false
set_option maxRecDepth 100000
set_option maxHeartbeats 2000000
/-! a dict walked by its keys: locked while the walk goes on -/
namespace Lk
open PySem PySem.Spec PyProof.Rows L2 Rd Dt Pk Ln En Sx Sy
section
variable {K : PySem.W.Frag} {σ : L2.St} {H H' : Hp} {Q : VK} {t : TE} {ts : TS} {td : TE} {g : TG} {tt : TT} {te : TE} {tb : TS} {vs : List Nat} {D : Ends}
theorem tLockE_ : tLockE t σ H Q = ∃ d u, H d = some u ∧ Mut (some u) ∧ ∀ od, t σ (upd H d (.frz od u)) fun v H' => H' d = some (.frz od u) ∧ Q v (upd H' d u) := rfl
theorem tLock_ : tLock ts D σ H = ∃ d u, H d = some u ∧ Mut (some u) ∧ ∀ od, ts ⟨fun σ' H' => H' d = some (.frz od u) ∧ D.nx σ' (upd H' d u), fun v H' => H' d = some (.frz od u) ∧ D.rt v (upd H' d u), fun σ' H' => H' d = some (.frz od u) ∧ D.bk σ' (upd H' d u), fun σ' H' => H' d = some (.frz od u) ∧ D.ct σ' (upd H' d u)⟩ σ (upd H d (.frz od u)) := rfl
theorem tLc_keys : tLc (iKeys td) g tt te vs σ H Q = td σ H fun x H1 => ∃ d o, x = .ref d ∧ ((∃ kvs, H1 d = some (.frz o (.dK kvs)) ∧ tLc (fun _ H R => R (Itk d o kvs) H) g tt te vs σ H1 Q) ∨ ∃ kvs, H1 d = some (.frz o (.dT kvs)) ∧ tLc (fun _ H R => R (Itkt d o kvs) H) g tt te vs σ H1 Q) := by
  unfold tLc iKeys
  rfl
theorem tFor_keys : tFor (iKeys td) g tb D σ H = td σ H fun x H1 => ∃ d o, x = .ref d ∧ ((∃ kvs, H1 d = some (.frz o (.dK kvs)) ∧ tFor (fun _ H R => R (Itk d o kvs) H) g tb D σ H1) ∨ ∃ kvs, H1 d = some (.frz o (.dT kvs)) ∧ tFor (fun _ H R => R (Itkt d o kvs) H) g tb D σ H1) := by
  unfold tFor iKeys
  rfl
theorem lc_k {d : Addr} {o : Obj} {kvs : List (Key × V)} (Pv : Addr → Nat → Hp → Prop) (h : ∀ D, H D = none → Pv D 0 (upd H D (.lst [])) ∧ (∀ i H', i ≤ kvs.length → Pv D i H' → H' d = some (.frz o (.dK kvs))) ∧ (∀ i kv H', kvs[i]? = some kv → Pv D i H' → Lturn g tt te vs σ D (kV kv.1) H' (Pv D (i + 1))) ∧ (∀ H', Pv D kvs.length H' → Q (.ref D) H')) :
    tLc (fun _ H R => R (Itk d o kvs) H) g tt te vs σ H Q := fun D hD => lc_it walk_keys (Pv D) (h D hD).1 (h D hD).2.1 (fun i x H H' hi hp hy => by
      obtain ⟨rfl, k, v, hk, rfl⟩ := hy
      exact (h D hD).2.2.1 i (k, v) _ hk hp) (h D hD).2.2.2
theorem for_k {d : Addr} {o : Obj} {kvs : List (Key × V)} (Pv : Nat → L2.St → Hp → Prop) (h0 : Pv 0 σ H) (hl : ∀ i σ H, i ≤ kvs.length → Pv i σ H → H d = some (.frz o (.dK kvs)))
    (hs : ∀ i kv σ H, kvs[i]? = some kv → Pv i σ H → g (kV kv.1) σ H fun σ2 H2 => tb { D with nx := Pv (i + 1), ct := Pv (i + 1), bk := D.nx } σ2 H2) (hd : ∀ σ H, Pv kvs.length σ H → D.nx σ H) : tFor (fun _ H R => R (Itk d o kvs) H) g tb D σ H :=
  for_it walk_keys Pv h0 hl (fun i x σ H H' hi hp hy => by
    obtain ⟨rfl, k, v, hk, rfl⟩ := hy
    exact hs i (k, v) σ _ hk hp) hd
theorem unlock_same {d : Addr} {u : HO} {od : Obj} (hd : H d = some u) (s : Same (upd H d (.frz od u)) H') : Same H (upd H' d u) := fun b o e => by
  by_cases c : b = d
  · rw [c] at e ⊢
    rw [upd_same, ← hd, e]
  · rw [upd_ne c]
    exact s _ _ (by rw [upd_ne c]; exact e)
theorem lock_ne {d b : Addr} {u o : HO} {od : Obj} (n : b ≠ d) (e : H b = some o) : upd H d (.frz od u) b = some o := by rw [upd_ne n]; exact e
theorem dget_f {d : Addr} {kvs : List (Key × V)} {k : Key} {od : Obj} (e : H d = some (.frz od (.dK kvs))) : DGet H d (kV k) (valV kvs k) := .inl ⟨kvs, k, .inr ⟨od, e⟩, rfl, rfl⟩
end
end Lk

set_option Elab.async false
set_option linter.all false
set_option maxRecDepth 100000
set_option maxHeartbeats 4000000
namespace K39S
open PySem PySem.Spec PyProof.Rows L2 Rd Dt Dq Pk Ln En Sx Sy So Sr Lk
local macro_rules | `(tactic| walk_at "rd") => `(tactic| try simp only [↓Lk.tLockE_, ↓Lk.tLock_, ↓Lk.tLc_keys, ↓Lk.tFor_keys, ↓Sy.tTupP_, ↓Sy.rTupP_, ↓Sy.rCatP_, ↓Sy.rSlP_, ↓Sy.rDictT_, ↓Sy.tDGet_, ↓Sy.tDGet1_, ↓Sy.tDIn_, ↓Sy.tDNotIn_, ↓Sy.tMeth_, ↓Sy.tMethKw_, ↓Sy.rSortedS_, ↓Sx.rIsT_, ↓En.tFor_enumT, ↓Sy.tFor_enumL, ↓Rv.tMakeKw_, ↓Prp.tProp_, ↓Lo.tBits_, ↓Lo.tJs_n, ↓Lo.tJs_c, ↓Lo.tFmt_, ↓Lo.gFld_, ↓Lo.tMake_, ↓Lo.rOwn_, ↓Rg.tFor_range3, ↓Rg.tLc_range3, ↓Rg.tLstC_, ↓Rg.tLc_rngV, ↓Le.rNeLE_, ↓Le.rEqLE_, ↓Ls.tLc_str, ↓Ls.sDPut_, ↓Rl.rReprL_, ↓Rl.tCallKS_, ↓Ob.tFld_, ↓Ob.sFld_, ↓tVar_, ↓tC_, ↓tM1, ↓tDNewK_, ↓tOp_, ↓tUn_, ↓rI_, ↓rI0_, ↓rU_, ↓eq_ii, ↓ne_ii, ↓eq_ss, ↓ne_ss, ↓eq_bb, ↓ne_bb, ↓tAndV_, ↓tOrV_, ↓tNotV_, ↓tIf_, ↓tTest_, ↓tB_, ↓tAnd_, ↓tOr_, ↓tNot_, ↓tChain_, ↓tNil_, ↓tCons_, ↓tTup_, ↓tLst_, ↓tCB_, ↓tCall_, ↓tSeq_, ↓tNext_, ↓tRet_, ↓tRetN_, ↓tDrop_, ↓tBreak_, ↓tNever_, ↓tIfS_, ↓tAsg_, ↓gName_, ↓gTup_, ↓gCons_, ↓gNil_, ↓gSub_, ↓tPar_, ↓tPar3_, ↓tSl_, ↓tNoPart_, ↓tPart_, ↓tBM_, ↓tFor_range1, ↓tFor_range2, ↓tFor_list, ↓tFor_tup, L2.start, List.headD_cons, List.headD_nil, List.tail_cons, List.map_cons, List.map_nil, List.length_cons, List.length_nil, List.replicate, List.append_nil, List.nil_append, List.cons_append, List.getElem?_cons_zero, List.getElem?_cons_succ, List.set_cons_zero, List.set_cons_succ, Option.some.injEq, V.int.injEq, V.bl.injEq, V.str.injEq, V.ref.injEq, exists_eq_left, exists_eq_left', exists_eq_right, exists_eq, exists_and_left, and_true, true_and, decide_eq_true_eq, Nat.reduceAdd, Nat.reduceSub, Nat.add_zero, Nat.zero_add, List.cons.injEq, Bool.not_eq_true', decide_eq_false_iff_not, eq_self, reduceCtorEq, Bool.false_eq_true, if_true, if_false, ite_true, ite_false, and_self, ↓tLc_range1, ↓tLc_range2, ↓tLc_list, ↓tLc_tup, ↓tYes_, wipe0, wipe1, ↓tCallS_, ↓rIxL_, ↓rIxT_, ↓rSlL_, ↓rCat_, ↓rSetL_, ↓rRep_, ↓rGcd_, ↓tCallK_, ↓gUnl_, ↓tRaise_, decide_true, decide_false, not_true_eq_false, not_false_eq_true, false_and, or_false, false_or, and_false, and_assoc, exists_const, forall_const, forall_eq'])
section
variable {P : Program} {w : World} {K : PySem.W.Frag} {mg : Str → Option Value} {base : Heap}
/-! ### a told part is right -/
structure MtC (P : Program) (w : World) (K : PySem.W.Frag) (mg : Str → Option Value) (base : Heap) (C : Addr) (m : Str) (lv : Nat) (ps ks : List Str) (sp : Sp) (f : Addr) (fd : FuncData) : Prop where
  m : Meth K C m f
  F : FnOk P w K mg base CX0 lv f fd ps sp
  b : Binds K fd ps []
structure MtS (P : Program) (w : World) (K : PySem.W.Frag) (mg : Str → Option Value) (base : Heap) (C a3 : Addr) (d3 : FuncData) : Prop where
  gone : MtC P w K mg base C "is_gone" 4 ["self", "place"] ["place"] (spGone K C) a3 d3
def spPR (K : PySem.W.Frag) (C : Addr) : Sp := fun vs H Q _ => ∃ (m : Nat) (r a dn dc : Addr) (ns ds : List (Nat × Nat)), vs = [.ref r, .ref a] ∧ StA K C H r ns (srt ds) ∧ LSt m H a dn dc ns ds ∧ m ≤ 120 ∧ ∀ H', Same H H' → Q (.bl true) H'
/-- numbers, grown -/
def nuP (H : Hp) (l : List Nat) (D : Addr) (j : Nat) (H' : Hp) : Prop := Same H H' ∧ H' D = some (.lst ((l.take j).map vN))
theorem nuP_step {H H' : Hp} {l : List Nat} {D : Addr} {j x : Nat} (hl : l.length ≤ 1000) (h : nuP H l D j H') (hD : H D = none) (e : l[j]? = some x) : ∃ acc, H' D = some (.lst acc) ∧ acc.length < sizeLine ∧ nuP H l D (j + 1) (upd H' D (.lst (acc ++ [vN x]))) := by
  obtain ⟨hs, hL⟩ := h
  have zl : (1000000 : Nat) ≤ sizeLine := line_big
  have tl : (l.take j).length ≤ l.length := List.length_take_le' _ _
  refine ⟨_, hL, by rw [List.length_map]; omega, fun c o q => ?_, ?_⟩
  · rw [upd_ne (ne_of_none q hD)]; exact hs _ _ q
  · rw [upd_same, List.take_succ, e, List.map_append]; rfl
theorem gone_eq (ns ds : List (Nat × Nat)) (p : Nat) : goneB ns (srt ds) p = (decide (p ∈ ns.map (·.2) ++ ds.map (·.2)) && (!decide (p = 0) && (look ds p).isNone)) := by
  unfold goneB
  have e1 : (look (srt ds) p).isNone = (look ds p).isNone := by
    rw [Bool.eq_iff_iff, Option.isNone_iff_eq_none, Option.isNone_iff_eq_none, Sr.look_none, Sr.look_none]
    exact ⟨fun h c hc => h c ((srt_perm ds).mem_iff.mpr hc), fun h c hc => h c ((srt_perm ds).mem_iff.mp hc)⟩
  have e2 : (ns.any (fun n => decide (n.2 = p)) || (srt ds).any (fun c => decide (c.2 = p))) = decide (p ∈ ns.map (·.2) ++ ds.map (·.2)) := by
    rw [Bool.eq_iff_iff, Bool.or_eq_true, decide_eq_true_eq, List.any_eq_true, List.any_eq_true, List.mem_append, List.mem_map, List.mem_map]
    simp only [decide_eq_true_eq, (srt_perm ds).mem_iff]
  rw [e1, e2]
  cases decide (p = 0) <;> cases (look ds p).isNone <;> cases decide (p ∈ ns.map (·.2) ++ ds.map (·.2)) <;> rfl
theorem inV_N (c : Nat) (fs : List Nat) : inV (.int (c : Int)) (fs.map vN) = decide (c ∈ fs) := by
  unfold inV
  rw [List.any_map, Bool.eq_iff_iff, List.any_eq_true, decide_eq_true_eq]
  constructor
  · rintro ⟨x, hx, e⟩
    have e2 : (x : Int) = c := by simpa [eqV] using e
    rw [← Int.ofNat.inj e2]
    exact hx
  · intro hx
    exact ⟨c, hx, by simp [eqV]⟩
end
end K39S

set_option Elab.async false
set_option linter.all false
set_option maxRecDepth 100000
set_option maxHeartbeats 4000000
/-! d.items(), d.values() of a dict with number or text keys; sorted(d.items()) of numbers; list(d.values()), list(d) -/
namespace Si
open PySem PySem.Spec PyProof.Rows L2 Rd Dt Pk Ln En Sx Sy So
open L2.DX (itemsO itemsO_ok takeT)
section
variable {X : Cx}
def rItemsK : V → List V → Hp → VK → Prop := fun x xs H Q => ∃ (a : Addr) (kvs : List (Key × V)), x = .ref a ∧ xs = [] ∧ H a = some (.dK kvs) ∧ ∀ p, H p = none → Q (.ref p) (upd H p (itemsO p a))
theorem mt_itemsK : MtR X "dict.items" rItemsK := by
  intro pins s σ H x xs v us Q I rx rxs h
  obtain ⟨a, kvs, rfl, rfl, ha, q⟩ := h
  cases rx
  cases rxs
  obtain ⟨hz, hs0, vs, kv, hdo⟩ := I.hok a _ ha
  obtain ⟨o, es, ep, ho, hx, hdat, _⟩ := hdo
  refine DT.callItems (es := es) (ep := ep) hs0 ⟨o, ho, hx, hdat⟩ ?_
  have hf : H s.heap.objs.size = none := I.hok.fresh (Nat.le_refl _)
  exact ⟨.ref s.heap.objs.size, upd H s.heap.objs.size (itemsO s.heap.objs.size a), I.laid (t' := s.toks) (fun b u e => Heap.get?_push_of_some _ e) (Nat.le_refl _) (itemsO_ok (Heap.get?_push_size _ rfl)), rfl, q _ hf⟩
/-- the view d.values() at p -/
def valsO (p d : Addr) : HO := .ext fun h => h.IsValuesView p d
theorem valsO_ok {P : Program} {w : World} {H : Hp} {h : Heap} {p d : Addr} (e : h.get? p = some { cls := .type "dict_values", data := .fields #[.ref d] }) : ObjOk P w H h p (valsO p d) :=
  ⟨⟨_, e, rfl, rfl⟩, ⟨_, e⟩, fun h1 h2 x k => let ⟨o, ho, r⟩ := x; ⟨o, k o ho, r⟩⟩
def rValsK : V → List V → Hp → VK → Prop := fun x xs H Q => ∃ (a : Addr) (kvs : List (Key × V)), x = .ref a ∧ xs = [] ∧ H a = some (.dK kvs) ∧ ∀ p, H p = none → Q (.ref p) (upd H p (valsO p a))
theorem mt_valsK : MtR X "dict.values" rValsK := by
  intro pins s σ H x xs v us Q I rx rxs h
  obtain ⟨a, kvs, rfl, rfl, ha, q⟩ := h
  cases rx
  cases rxs
  obtain ⟨hz, hs0, vs, kv, hdo⟩ := I.hok a _ ha
  refine call_meetsIn PySem.F.slot_dict_values hdo.typeIs PySem.F.entry_dict_values (PySem.F.args_dict_values_1 _) (meets_dict_values (mixKind X.prog X.w) a hs0) ⟨⟨vs, hdo⟩, ?_⟩
  have hf : H s.heap.objs.size = none := I.hok.fresh (Nat.le_refl _)
  exact ⟨.ref s.heap.objs.size, upd H s.heap.objs.size (valsO s.heap.objs.size a), I.laid (t' := s.toks) (fun b u e => Heap.get?_push_of_some _ e) (Nat.le_refl _) (valsO_ok (Heap.get?_push_size _ rfl)), rfl, q _ hf⟩
theorem vals_ix : ∀ {xs : List V} {us : List Value}, xs.length = us.length → (∀ (j : Nat) (x : V) (u : Value), xs[j]? = some x → us[j]? = some u → RelV x u) → Vals xs us
  | [], [], _, _ => .nil
  | [], _ :: _, h, _ => nomatch h
  | _ :: _, [], h, _ => nomatch h
  | x :: xs, u :: us, h, k => .cons (k 0 x u rfl rfl) (vals_ix (Nat.succ.inj h) fun j y v (e1 : xs[j]? = some y) (e2 : us[j]? = some v) => k (j + 1) y v (by simpa using e1) (by simpa using e2))
/-- d.pop(k), k there -/
def rPopD : V → List V → Hp → VK → Prop := fun x xs H Q => ∃ (a : Addr) (kvs : List (Key × V)) (k : Key) (y : V), x = .ref a ∧ xs = [kV k] ∧ H a = some (.dK kvs) ∧ valV kvs k = some y ∧ Q y (upd H a (.dK (dropK kvs k)))
theorem mt_popD : MtR X "dict.pop" rPopD := by
  intro pins s σ H x xs v us Q I rx rxs h
  obtain ⟨a, kvs, k, y, rfl, rfl, ha, hv, q⟩ := h
  cases rx
  obtain ⟨u, rfl, ru⟩ := vals1 rxs
  exact d_pop I ha ru hv (.inl rfl) fun w' s' I2 rw' => ⟨y, _, I2, rw', q⟩
/-- list(d.values()), list(d) -/
def rListD : List V → Hp → VK → Prop := fun vs H Q => ∃ (p a : Addr) (kvs : List (Key × V)), vs = [.ref p] ∧ H a = some (.dK kvs) ∧ kvs.length ≤ 1000 ∧
  ((H p = some (valsO p a) ∧ ∀ l, H l = none → Q (.ref l) (upd H l (.lst (kvs.map (·.2))))) ∨ (p = a ∧ ∀ l, H l = none → Q (.ref l) (upd H l (.lst (kvs.map fun k => kV k.1)))))
theorem cr_listD (hc : X.calm = true) : CallR X (.type "list") rListD := by
  intro pins s σ H xs us Q I r h
  obtain ⟨p, a, kvs, rfl, ha, hl, h⟩ := h
  obtain rfl := Vals.ref1 r
  obtain ⟨hz, hs0, vs, kv, hdo⟩ := I.hok a _ ha
  obtain ⟨ep, hat⟩ := hdo.dictAt
  have lk : kvs.length = vs.length := Paired.length kv
  have hf : H s.heap.objs.size = none := I.hok.fresh (Nat.le_refl _)
  have zl : (1000000 : Nat) ≤ sizeLine := line_big
  rcases h with ⟨hp, q⟩ | ⟨rfl, q⟩
  · have view : s.heap.IsValuesView p a := (show ObjOk X.prog X.w H s.heap p (valsO p a) from I.hok p _ hp).1
    refine PySem.W.kdl_call (PySem.W.kdl_values (kvs := vs)) (I.ok.hd hc) ⟨view, hat⟩ (by omega) fun h' tk acc c hk hS hit => ?_
    have key : Vals (kvs.map (·.2)) acc.toList := by
      have e : acc.toList = vs.map (·.2) := PySem.W.kdl_vals_eq _ hit.1 fun j v hj => hit.2 j v (by rw [← Array.getElem?_toList]; exact hj)
      rw [e]
      clear e hit lk hat hdo q ha hl hz
      induction kv with
      | nil => exact .nil
      | cons h t ih => exact .cons h.2 ih
    exact ⟨.ref s.heap.objs.size, upd H s.heap.objs.size (.lst (kvs.map (·.2))), I.laid (t' := tk) hk (Nat.le_refl _) ⟨by rw [List.length_map]; omega, acc.toList, c, key, by rw [Array.toArray_toList]; exact hS⟩, rfl, q _ hf⟩
  · refine PySem.W.kdl_call (PySem.W.kdl_dict (kvs := vs) hs0) (I.ok.hd hc) hat (by omega) fun h' tk acc c hk hS hit => ?_
    have key : Vals (kvs.map fun k => kV k.1) acc.toList := by
      refine vals_ix (by rw [List.length_map, Array.length_toList]; exact lk.trans hit.1.symm) fun j x u e1 e2 => ?_
      rw [List.getElem?_map] at e1
      obtain ⟨k, e3, rfl⟩ := Option.map_eq_some_iff.mp e1
      obtain ⟨y, e4, e5, _⟩ := paired_get kv e3
      obtain ⟨k', x', e6, e7⟩ := hit.2 j u (by rw [← Array.getElem?_toList]; exact e2)
      rw [e4] at e6
      cases e6
      have e5' : k.1 = k' := e5
      rw [e5']
      exact relV_key (show keyIs k' u = true from e7)
    exact ⟨.ref s.heap.objs.size, upd H s.heap.objs.size (.lst (kvs.map fun k => kV k.1)), I.laid (t' := tk) hk (Nat.le_refl _) ⟨by rw [List.length_map]; omega, acc.toList, c, key, by rw [Array.toArray_toList]; exact hS⟩, rfl, q _ hf⟩
/-- sorted(d), number keys, any length to 1000 -/
theorem call_sortedDIA (hcalm : X.calm = true) : CallR X (.builtin "sorted") (fun xs H Q => ∃ (a : Addr) (kvs : List (Key × V)) (ks : List Int), xs = [.ref a] ∧ Rd H a (.dK kvs) ∧ kvs.map (·.1) = ks.map Sum.inl ∧ ks.length ≤ 1000 ∧
    ∀ (ys : List Int) (p : Addr), ys.Perm ks → ys.Pairwise (· ≤ ·) → H p = none → Q (.ref p) (upd H p (.lst (ys.map V.int)))) := by
  intro pins s σ H xs us Q I r q
  obtain ⟨a, kvs, ks, ex, hd, hks, h64, q⟩ := q
  subst ex
  obtain ⟨u, eu, rx⟩ := vals1 r
  subst eu
  cases rx
  obtain ⟨z, lo, vs, rel, dd⟩ := dk_rd I.hok hd
  obtain ⟨ep, hat⟩ := dd.dictAt
  have hkeys : vs.map (·.1) = ks.map Sum.inl := rel.keys.symm.trans hks
  have hl : vs.length = ks.length := by
    have e := congrArg List.length hkeys
    rw [List.length_map, List.length_map] at e
    exact e
  have zl : (1000000 : Nat) ≤ sizeLine := line_big
  have h16 : vs.length ≤ sizeLine := by rw [hl]; omega
  refine Calls.call_function_entry PyProof.Rows.kind_sorted PyProof.Rows.plain_sorted PyProof.Rows.entry_sorted (PyProof.Rows.args_sorted1 _) ?_
  unfold Builtin.«sorted»
  refine wpAny_bind (m := checkCount "sorted" 1 1 _) (wpAny_pure ?_)
  refine wpAny_bind (PySem.W.kdu_collect (A := X.A.in1) (PySem.W.kdl_dict (knd := mixKind X.prog X.w) (kvs := vs) (ep := ep) lo) (I.ok.hd hcalm) hat h16 fun h' tk acc hk hacc => ?_)
  have hal : acc.toList.length = ks.length := by rw [Array.length_toList, hacc.1, hl]
  have hS : IntsAre acc.toList ks := ints_each hal fun j v e => by
    obtain ⟨k, x, e1, e2⟩ := hacc.2 j v (by rw [← Array.getElem?_toList]; exact e)
    have e3 : (vs.map (·.1))[j]? = some k := by rw [List.getElem?_map, e1]; rfl
    rw [hkeys, List.getElem?_map] at e3
    cases e4 : ks[j]? with
    | none => rw [e4] at e3; cases e3
    | some y =>
      rw [e4] at e3
      have e5 : Sum.inl y = k := Option.some.inj e3
      subst e5
      rcases keyIs_shape (show keyIs (Sum.inl y) v = true from e2) with ⟨i, t, ek, ev⟩ | ⟨z, t, ek, ev⟩
      · cases ek
        exact ⟨y, t, rfl, ev⟩
      · cases ek
  have I1 : Inv X pins σ H { s with heap := h', toks := tk } := I.kept hk
  refine wpAny_bind (wpAny_newList ?_ (by rw [hal]; omega))
  have hoL : (h'.push (seqObj "list" acc.toList.toArray 0)).get? h'.objs.size = some (seqObj "list" acc.toList.toArray 0) := Heap.get?_push_size _ rfl
  show wpAny _ _ _ _ _ { s with heap := h'.push (seqObj "list" acc.toList.toArray 0), toks := tk }
  refine wpAny_bind (wpAny_holding (wpAny_call_entry PyProof.Rows.slot_list_sort ⟨_, hoL, rfl⟩ PyProof.Rows.entry_list_sort
    (SrtO.list_sort_ord (s := { s with heap := h'.push (seqObj "list" acc.toList.toArray 0), toks := tk }) SrtO.swo_int hoL (by rw [hal]; omega) (fun h2 => SrtO.ints_sortable hS h2) fun out g1 g2 => ⟨_, rfl, ?_⟩) (PyProof.Rows.args_list_sort _)))
  obtain ⟨k1, k2, k3⟩ := SrtO.ints_out hS g1 g2
  obtain ⟨e', he'⟩ := PyProof.Rows.sortedHeap_at (vs := acc.toList) (out := out.toArray) hoL
  have hlen : ((out.map SrtO.iv).map V.int).length ≤ sizeLine := by
    rw [List.length_map, k2.length_eq]
    omega
  refine wpAny_pure ⟨_, rfl, .ref h'.objs.size, upd H h'.objs.size (.lst ((out.map SrtO.iv).map V.int)), I1.laid (t' := tk) (fun b u e => ?_) (Nat.le_refl _)
    (show ObjOk X.prog X.w _ _ _ (.lst ((out.map SrtO.iv).map V.int)) from ⟨hlen, out, e', vals_of_ints k1, he'⟩), rfl, q _ _ k2 k3 (I1.hok.fresh (Nat.le_refl _))⟩
  have hb : b < h'.objs.size := Heap.lt_size e
  rw [PyProof.Rows.sortedHeap_old (Nat.ne_of_lt hb) (by rw [size_push']; exact Nat.lt_succ_of_lt hb)]
  exact Heap.get?_push_of_some _ e
/-! ### sorted(d.items()) of numbers -/
def prH (h : Heap) : Value → Nat × Nat
  | .ref b => match h.get? b with
    | some o => match o.data with
      | .seq its _ => match its.toList with
        | [.int x _, .int y _] => (x.toNat, y.toNat)
        | _ => (0, 0)
      | _ => (0, 0)
    | none => (0, 0)
  | _ => (0, 0)
def rSortIt (K : PySem.W.Frag) : List V → Hp → VK → Prop := fun vs H Q => ∃ (p a : Addr) (cs : List (Nat × Nat)), vs = [.ref p] ∧ H p = some (itemsO p a) ∧ H a = some (.dK (cs.map ck)) ∧ cs.length ≤ 1000 ∧
  ∀ (H' : Hp) (zs : List V) (ds : List (Nat × Nat)) (l : Addr), Same H H' → ds.Perm cs → ds.Pairwise (fun x y => x.1 ≤ y.1) → Prs K H' zs (ds.map ck) → H' l = some (.lst zs) → Q (.ref l) H'
theorem cr_sortedIt {K : PySem.W.Frag} (hK : X.K = K) (hc : X.calm = true) : CallR X (.builtin "sorted") (rSortIt K) := by
  subst hK
  intro pins s σ H xs us Q I r h
  obtain ⟨p, a, cs, rfl, hp, ha, hl, q⟩ := h
  obtain rfl := Vals.ref1 r
  have view : s.heap.IsItemsView p a := (show ObjOk X.prog X.w H s.heap p (itemsO p a) from I.hok p _ hp).1
  obtain ⟨hz, hs0, vs, kv, hdo⟩ := I.hok a _ ha
  obtain ⟨es, ep, hraw, hsz, hent⟩ := Heap.DictOf.raw hdo
  have lk : (cs.map ck).length = vs.length := Paired.length kv
  rw [List.length_map] at lk
  have zl : (1000000 : Nat) ≤ sizeLine := line_big
  refine DT.sortedI (es := es) (ep := ep) (I.ok.hd hc) view hraw (by omega) fun h' tk as hk hlt hlen hG => ?_
  have nd : as.Nodup := List.Pairwise.imp (fun h => Nat.ne_of_lt h) hG.rise
  -- the pairs that were made
  have pr : ∀ (j : Nat) (b : Addr), as[j]? = some b → ∃ (c : Nat × Nat) (t1 t2 : Tok), cs[j]? = some c ∧ h'.get? b = some { cls := .type "tuple", data := .seq #[Value.int c.1 t1, Value.int c.2 t2] } := by
    intro j b hj
    obtain ⟨e, he, hg⟩ := hG.pairs j b hj
    have hj' : j < es.size := by
      have := (List.getElem?_eq_some_iff.mp hj).1
      omega
    have hjc : j < cs.length := by omega
    have e3 : (cs.map ck)[j]? = some (ck cs[j]) := by rw [List.getElem?_map, List.getElem?_eq_getElem hjc, Option.map_some]
    obtain ⟨y, e4, e5, e6⟩ := paired_get kv e3
    obtain ⟨f1, f2⟩ := hent j hj' y.1 y.2 e4
    rw [Array.getElem?_eq_getElem hj'] at he
    cases he
    have r1 : RelV (.int cs[j].1) es[j].key := by
      have := relV_key (show keyIs y.1 es[j].key = true from f1)
      rw [← e5] at this
      exact this
    rw [f2] at hg
    obtain ⟨t1, r1⟩ := r1
    obtain ⟨t2, r2⟩ := e6
    rw [r1, r2] at hg
    exact ⟨cs[j], t1, t2, List.getElem?_eq_getElem hjc, hg⟩
  have at_ : ∀ v ∈ as.map Value.ref, ∃ (j : Nat) (b : Addr) (c : Nat × Nat) (t1 t2 : Tok), v = .ref b ∧ as[j]? = some b ∧ cs[j]? = some c ∧ h'.get? b = some { cls := .type "tuple", data := .seq #[Value.int c.1 t1, Value.int c.2 t2] } := by
    intro v hv'
    obtain ⟨b, hb, rfl⟩ := List.mem_map.mp hv'
    obtain ⟨j, hj⟩ := List.mem_iff_getElem?.mp hb
    obtain ⟨c, t1, t2, h1, h2⟩ := pr j b hj
    exact ⟨j, b, c, t1, t2, rfl, hj, h1, h2⟩
  have prE : ∀ (b : Addr) (c : Nat × Nat) (t1 t2 : Tok), h'.get? b = some { cls := .type "tuple", data := .seq #[Value.int c.1 t1, Value.int c.2 t2] } → prH h' (.ref b) = c := fun b c t1 t2 e => by
    simp [prH, e]
  let k2 : Value → Int × Int := fun v => ((prH h' v).1, (prH h' v).2)
  have hob : (h'.push { cls := .type "list", data := .seq (as.map Value.ref).toArray }).get? h'.objs.size = some (seqObj "list" (as.map Value.ref).toArray 0) := Heap.get?_push_size _ rfl
  have ne0 : ∀ b o, h'.get? b = some o → b ≠ h'.objs.size := fun b o e => Nat.ne_of_lt (Heap.lt_size e)
  generalize hh2 : h'.push { cls := .type "list", data := .seq (as.map Value.ref).toArray } = h2 at hob ⊢
  have ka : ∀ b o, h'.get? b = some o → h2.get? b = some o := fun b o e => by rw [← hh2]; exact Heap.get?_push_of_some _ e
  have hp2 : ∀ v ∈ as.map Value.ref, Srt.IsPair h2 v (k2 v).1 (k2 v).2 := fun v hv => by
    obtain ⟨j, b, c, t1, t2, rfl, e1, e2, e3⟩ := at_ v hv
    have e4 := prE b c t1 t2 e3
    have e5 : k2 (.ref b) = ((c.1 : Int), (c.2 : Int)) := by show ((((prH h' (.ref b)).1 : Nat) : Int), (((prH h' (.ref b)).2 : Nat) : Int)) = _; rw [e4]
    rw [e5]
    exact ⟨b, _, t1, t2, 0, rfl, ka _ _ e3, rfl, rfl⟩
  refine wpAny_call_entry PyProof.Rows.slot_list_sort ⟨_, hob, rfl⟩ PyProof.Rows.entry_list_sort (SrtO.list_sort_ord (s := { s with heap := h2, toks := tk }) (SrtO.swo_lex k2) hob (by rw [List.length_map]; omega) (fun hz2 => SrtO.pairs_sortableO (k := k2) (by omega) hp2 fun o e => ?_) fun out ho hb => ⟨.none, rfl, ?_⟩) (PyProof.Rows.args_list_sort _)
  · have e' : some o = some (seqObj "list" (as.map Value.ref).toArray 0) := e.symm.trans hob
    cases e'
    exact fun c => absurd (Value.type.inj c) (by decide)
  show EP X pins σ Q (.ref h'.objs.size) { s with heap := sortedHeap h2 h'.objs.size (as.map Value.ref) out.toArray, toks := tk }
  have mem : ∀ u ∈ out, u ∈ as.map Value.ref := fun u hu => hb.perm.mem_iff.mp hu
  have refs : ∀ u ∈ out, ∃ b, u = Value.ref b := fun u hu => by
    obtain ⟨_, b, _, _, _, e, _⟩ := at_ u (mem u hu)
    exact ⟨b, e⟩
  have kF : ∀ b o, b ≠ h'.objs.size → h2.get? b = some o → (sortedHeap h2 h'.objs.size (as.map Value.ref) out.toArray).get? b = some o := fun b o hb e => (PyProof.Rows.sortedHeap_old hb (Heap.lt_size e)).trans e
  have kS : ∀ b o, s.heap.get? b = some o → (sortedHeap h2 h'.objs.size (as.map Value.ref) out.toArray).get? b = some o := fun b o e => kF b o (ne0 _ _ (hk b o e)) (ka b o (hk b o e))
  obtain ⟨eF, heF⟩ := PyProof.Rows.sortedHeap_at (vs := as.map Value.ref) (out := out.toArray) hob
  have I1 : Inv X pins σ H { s with heap := sortedHeap h2 h'.objs.size (as.map Value.ref) out.toArray, toks := tk } := I.kept (t' := tk) kS
  have hn0 : H h'.objs.size = none := I.hok.fresh (Nat.le_of_lt hlt)
  have lo : out.length = as.length := by
    have := hb.perm.length_eq
    rwa [List.length_map] at this
  have I2 : Inv X pins σ (upd H h'.objs.size (.lst (out.map backV))) { s with heap := sortedHeap h2 h'.objs.size (as.map Value.ref) out.toArray, toks := tk } :=
    I1.take (h' := sortedHeap h2 h'.objs.size (as.map Value.ref) out.toArray) (t' := tk) (fun b ob _ e => e) (I.fpOk (Nat.le_of_lt hlt) hn0) ⟨by rw [List.length_map]; omega, out, eF, vals_back refs, heF⟩
  have asN : ∀ b ∈ as, b ≠ h'.objs.size := fun b hb => by
    obtain ⟨j, hj⟩ := List.mem_iff_getElem?.mp hb
    obtain ⟨_, _, _, _, e⟩ := pr j b hj
    exact ne0 _ _ e
  obtain ⟨H2, I3, g, qt⟩ := takeT (P := fun b vs => ∃ (j : Nat) (c : Nat × Nat) (t1 t2 : Tok), as[j]? = some b ∧ cs[j]? = some c ∧ vs = [.int c.1, .int c.2] ∧ h'.get? b = some { cls := .type "tuple", data := .seq #[Value.int c.1 t1, Value.int c.2 t2] }) I as _ I2 nd fun b hb => by
    obtain ⟨j, hj⟩ := List.mem_iff_getElem?.mp hb
    obtain ⟨c, t1, t2, e1, e2⟩ := pr j b hj
    have lb := Nat.le_of_lt (hG.above b hb)
    refine ⟨lb, by rw [upd_ne (asN b hb)]; exact I.hok.fresh lb, [.int c.1, .int c.2], ⟨j, c, t1, t2, hj, e1, rfl, e2⟩, fun H2 => ⟨by show 2 ≤ sizeLine; omega, _, .cons ⟨t1, rfl⟩ (.cons ⟨t2, rfl⟩ .nil), _, kF _ _ (ne0 _ _ e2) (ka _ _ e2), rfl, _, rfl⟩⟩
  have lst2 : H2 h'.objs.size = some (.lst (out.map backV)) := g _ _ upd_same
  refine ⟨.ref h'.objs.size, H2, I3, rfl, q H2 (out.map backV) (out.map (prH h')) _ (fun b o e => g b o (by rw [upd_ne (ne_of_none e hn0)]; exact e)) ?_ ?_ ?_ lst2⟩
  · have e := hb.perm.map (prH h')
    have : (as.map Value.ref).map (prH h') = cs := by
      rw [List.map_map]
      refine List.ext_getElem? fun j => ?_
      rw [List.getElem?_map]
      cases hj : as[j]? with
      | none =>
        have := List.getElem?_eq_none_iff.mp hj
        exact (List.getElem?_eq_none (by omega)).symm
      | some b =>
        obtain ⟨c, t1, t2, e1, e2⟩ := pr j b hj
        rw [e1]
        exact congrArg some (prE b c t1 t2 e2)
    rwa [this] at e
  · refine List.pairwise_map.mpr (ho.imp fun {x y} z => ?_)
    have := SrtO.lexB_no.mp z
    simp only [k2] at this
    omega
  · let gg : V → Key × V := fun x => match x with
      | .ref b => ck (prH h' (.ref b))
      | _ => ck (0, 0)
    have e : (out.map (prH h')).map ck = (out.map backV).map gg := by
      rw [List.map_map, List.map_map]
      refine List.map_congr_left fun u hu => ?_
      obtain ⟨b, rfl⟩ := refs u hu
      rfl
    rw [e]
    refine Prs.ofMap gg _ fun x hx => ?_
    obtain ⟨u, hu, rfl⟩ := List.mem_map.mp hx
    obtain ⟨j, b, c, t1, t2, rfl, e1, e2, e3⟩ := at_ u (mem u hu)
    obtain ⟨vs', ⟨j', c', t1', t2', e1', e2', rfl, e3'⟩, e4⟩ := qt b (List.mem_of_getElem? e1)
    refine ⟨b, rfl, ?_⟩
    have e5 : prH h' (.ref b) = c' := prE b c' t1' t2' e3'
    show SqT X.K H2 b [kV (ck (prH h' (.ref b))).1, (ck (prH h' (.ref b))).2]
    rw [e5]
    exact SqT.of e4
end
/-! ### list(e.values()), sorted(e.items()) as one -/
section
variable {X : Cx} {K : PySem.W.Frag}
theorem pe_weak {e : Expr} {t t' : TE} (h : PE X e t) (k : ∀ σ H Q, t' σ H Q → t σ H Q) : PE X e t' := ⟨fun pins s σ H Q I hq => h.run pins s σ H Q I (k _ _ _ hq)⟩
def tLV (te : TE) : TE := fun σ H Q => te σ H fun x H1 => ∃ (a : Addr) (kvs : List (Key × V)), x = .ref a ∧ H1 a = some (.dK kvs) ∧ kvs.length ≤ 1000 ∧ ∀ (H' : Hp) (l : Addr), Same H1 H' → H1 l = none → H' l = some (.lst (kvs.map (·.2))) → Q (.ref l) H'
def tLK (te : TE) : TE := fun σ H Q => te σ H fun x H1 => ∃ (a : Addr) (kvs : List (Key × V)), x = .ref a ∧ H1 a = some (.dK kvs) ∧ kvs.length ≤ 1000 ∧ ∀ (H' : Hp) (l : Addr), Same H1 H' → H1 l = none → H' l = some (.lst (kvs.map fun k => kV k.1)) → Q (.ref l) H'
def tSI (K : PySem.W.Frag) (te : TE) : TE := fun σ H Q => te σ H fun x H1 => ∃ (a : Addr) (cs : List (Nat × Nat)), x = .ref a ∧ H1 a = some (.dK (cs.map ck)) ∧ cs.length ≤ 1000 ∧
  ∀ (H' : Hp) (zs : List V) (ds : List (Nat × Nat)) (l : Addr), Same H1 H' → ds.Perm cs → ds.Pairwise (fun x y => x.1 ≤ y.1) → Prs K H' zs (ds.map ck) → H' l = some (.lst zs) → Q (.ref l) H'
variable {te : TE} {σ : L2.St} {H : Hp} {Q : VK} (mono : ∀ (σ : L2.St) (H : Hp) (Q R : VK), (∀ x H', Q x H' → R x H') → te σ H Q → te σ H R)
include mono in
theorem lv_ok (h : tLV te σ H Q) : tBM0 K "dict" rValsK te σ H fun x H1 => rListD [x] H1 Q := by
  refine mono _ _ _ _ (fun x H1 h => ?_) h
  obtain ⟨a, kvs, rfl, ha, hl, q⟩ := h
  refine ⟨.inr (.inr (.inl ⟨rfl, .inl ⟨_, ha⟩⟩)), a, kvs, rfl, rfl, ha, fun p hp => ⟨p, a, kvs, rfl, by rw [upd_ne (ne_of_none ha hp)]; exact ha, hl, .inl ⟨upd_same, fun l hl2 => ?_⟩⟩⟩
  have s1 : Same H1 (upd H1 p (valsO p a)) := same_new hp
  exact q _ l (s1.trans (same_new hl2)) (by
    by_cases e : l = p
    · rw [e]; exact hp
    · rw [upd_ne e] at hl2; exact hl2) upd_same
include mono in
theorem lk_ok (h : tLK te σ H Q) : te σ H fun x H1 => rListD [x] H1 Q := by
  refine mono _ _ _ _ (fun x H1 h => ?_) h
  obtain ⟨a, kvs, rfl, ha, hl, q⟩ := h
  exact ⟨a, a, kvs, rfl, ha, hl, .inr ⟨rfl, fun l hl2 => q _ l (same_new hl2) hl2 upd_same⟩⟩
include mono in
theorem si_ok (h : tSI K te σ H Q) : tBM0 K "dict" rItemsK te σ H fun x H1 => rSortIt K [x] H1 Q := by
  refine mono _ _ _ _ (fun x H1 h => ?_) h
  obtain ⟨a, cs, rfl, ha, hl, q⟩ := h
  refine ⟨.inr (.inr (.inl ⟨rfl, .inl ⟨_, ha⟩⟩)), a, _, rfl, rfl, ha, fun p hp => ⟨p, a, cs, rfl, upd_same, by rw [upd_ne (ne_of_none ha hp)]; exact ha, hl, fun H' zs ds l s' pm pw prs hl2 => ?_⟩⟩
  exact q H' zs ds l ((same_new hp).trans s') pm pw prs hl2
end
theorem mono_fld {n : Nat} {x : Str} {K : PySem.W.Frag} : ∀ (σ : L2.St) (H : Hp) (Q R : VK), (∀ x H', Q x H' → R x H') → tFld K (tVar n) x σ H Q → tFld K (tVar n) x σ H R := fun σ H Q R k h =>
  mono_var σ H _ _ (fun y H1 ⟨a, C, dx, fs, v, h1, h2, h3, h4, h5, q⟩ => ⟨a, C, dx, fs, v, h1, h2, h3, h4, h5, k _ _ q⟩) h
end Si

set_option Elab.async false
set_option linter.all false
set_option maxRecDepth 100000
set_option maxHeartbeats 4000000
namespace K39S
open PySem PySem.Spec PyProof.Rows L2 Rd Dt Dq Pk Ln En Sx Sy So Sr Lk
local macro_rules | `(tactic| walk_at "rd") => `(tactic| try simp only [↓Lk.tLockE_, ↓Lk.tLock_, ↓Lk.tLc_keys, ↓Lk.tFor_keys, ↓Sy.tTupP_, ↓Sy.rTupP_, ↓Sy.rCatP_, ↓Sy.rSlP_, ↓Sy.rDictT_, ↓Sy.tDGet_, ↓Sy.tDGet1_, ↓Sy.tDIn_, ↓Sy.tDNotIn_, ↓Sy.tMeth_, ↓Sy.tMethKw_, ↓Sy.rSortedS_, ↓Sx.rIsT_, ↓En.tFor_enumT, ↓Sy.tFor_enumL, ↓Rv.tMakeKw_, ↓Prp.tProp_, ↓Lo.tBits_, ↓Lo.tJs_n, ↓Lo.tJs_c, ↓Lo.tFmt_, ↓Lo.gFld_, ↓Lo.tMake_, ↓Lo.rOwn_, ↓Rg.tFor_range3, ↓Rg.tLc_range3, ↓Rg.tLstC_, ↓Rg.tLc_rngV, ↓Le.rNeLE_, ↓Le.rEqLE_, ↓Ls.tLc_str, ↓Ls.sDPut_, ↓Rl.rReprL_, ↓Rl.tCallKS_, ↓Ob.tFld_, ↓Ob.sFld_, ↓tVar_, ↓tC_, ↓tM1, ↓tDNewK_, ↓tOp_, ↓tUn_, ↓rI_, ↓rI0_, ↓rU_, ↓eq_ii, ↓ne_ii, ↓eq_ss, ↓ne_ss, ↓eq_bb, ↓ne_bb, ↓tAndV_, ↓tOrV_, ↓tNotV_, ↓tIf_, ↓tTest_, ↓tB_, ↓tAnd_, ↓tOr_, ↓tNot_, ↓tChain_, ↓tNil_, ↓tCons_, ↓tTup_, ↓tLst_, ↓tCB_, ↓tCall_, ↓tSeq_, ↓tNext_, ↓tRet_, ↓tRetN_, ↓tDrop_, ↓tBreak_, ↓tNever_, ↓tIfS_, ↓tAsg_, ↓gName_, ↓gTup_, ↓gCons_, ↓gNil_, ↓gSub_, ↓tPar_, ↓tPar3_, ↓tSl_, ↓tNoPart_, ↓tPart_, ↓tBM_, ↓tFor_range1, ↓tFor_range2, ↓tFor_list, ↓tFor_tup, L2.start, List.headD_cons, List.headD_nil, List.tail_cons, List.map_cons, List.map_nil, List.length_cons, List.length_nil, List.replicate, List.append_nil, List.nil_append, List.cons_append, List.getElem?_cons_zero, List.getElem?_cons_succ, List.set_cons_zero, List.set_cons_succ, Option.some.injEq, V.int.injEq, V.bl.injEq, V.str.injEq, V.ref.injEq, exists_eq_left, exists_eq_left', exists_eq_right, exists_eq, exists_and_left, and_true, true_and, decide_eq_true_eq, Nat.reduceAdd, Nat.reduceSub, Nat.add_zero, Nat.zero_add, List.cons.injEq, Bool.not_eq_true', decide_eq_false_iff_not, eq_self, reduceCtorEq, Bool.false_eq_true, if_true, if_false, ite_true, ite_false, and_self, ↓tLc_range1, ↓tLc_range2, ↓tLc_list, ↓tLc_tup, ↓tYes_, wipe0, wipe1, ↓tCallS_, ↓rIxL_, ↓rIxT_, ↓rSlL_, ↓rCat_, ↓rSetL_, ↓rRep_, ↓rGcd_, ↓tCallK_, ↓gUnl_, ↓tRaise_, decide_true, decide_false, not_true_eq_false, not_false_eq_true, false_and, or_false, false_or, and_false, and_assoc, exists_const, forall_const, forall_eq'])
section
variable {P : Program} {w : World} {K : PySem.W.Frag} {mg : Str → Option Value} {base : Heap}
theorem sc_md : FnScope ["_law_mine", "_law_heads", "_law_sign", "_law_spot"] ["_law_mine"] (defScope (top 45)) := ⟨rfl, rfl, rfl, by decide +kernel, rfl, by decide +kernel, by decide +kernel⟩
theorem ok_md {f C fi : Addr} {fd fdI : FuncData} (T : Tx mg) (L : StM K mg C fi) (F : FD K "_law_store" (top 45) f fd) (F_init : FnOk P w K mg base CX0 5 fi fdI ["self", "names", "cells"] (spInit K C)) (b_init : Binds K fdI ["self", "names", "cells"] []) :
    FnOk P w K mg base CX0 7 f fd ["_law_mine"] (spMade K C) := by
  refine F.ok sc_md (fun vs H Q E h => ?_) (fun cdv A outer s H vs Q E hr h => ?_)
  · obtain ⟨_, _, _, _, _, _, rfl, _⟩ := h
    rfl
  · obtain ⟨m, a, dn, dc, ns, ds, rfl, ⟨ha, hdn, hdc, okn, okd⟩, hm, k⟩ := h
    have nd := sc_md.nd
    have zl : (1000000 : Nat) ≤ sizeLine := line_big
    have ln := okn.2.1
    have okc := okd.cl hm
    have lc := okd.1
    refine ⟨_, (pss_cons (ps_set (i := 1) nd rfl (Or.inl rfl) (pe_callTy (En.call_tupP (K := K) rfl) (by rfl) T.b_tuple (by decide +kernel) (pa_cons (pe_lc (own := [("_law_sign", 2)]) rfl nd (pi_list (pe_callB (call_sortedD rfl) (by rfl) T.b_sorted (by decide +kernel) (pa_cons (pe_ix (r := rIxL K) ix_list (pv 0) pe_int (fun _ _ => rfl)) pa_nil))) (blkOk_by (N := ["_law_mine", "_law_heads", "_law_sign", "_law_spot"]) (sc := defScope (top 45)) (by decide +kernel)) (fun _ _ _ _ _ => (pg_name (i := 2) nd rfl (Or.inl rfl))) (fun _ _ _ _ _ => pts_nil) (fun _ _ _ _ _ => (pe_tup (pa_cons (pv 2) (pa_cons (pe_dget (hu_of hr) (pe_ix (r := rIxL K) ix_list (pv 0) pe_int (fun _ _ => rfl)) (pv 2) (fun _ _ => rfl)) pa_nil))))) pa_nil)))
        (pss_one (ps_ret (pe_make L.mkr F_init (hr.mono (by omega)) rfl L.g b_init .nil pass0 (pa_cons (pv 1) (pa_cons (pe_callTy (En.call_tupP (K := K) rfl) (by rfl) T.b_tuple (by decide +kernel) (pa_cons (pe_lc (own := [("_law_spot", 3)]) rfl nd (pi_list (pe_callB (Si.call_sortedDIA rfl) (by rfl) T.b_sorted (by decide +kernel) (pa_cons (pe_ix (r := rIxL K) ix_list (pv 0) pe_int (fun _ _ => rfl)) pa_nil))) (blkOk_by (N := ["_law_mine", "_law_heads", "_law_sign", "_law_spot"]) (sc := defScope (top 45)) (by decide +kernel)) (fun _ _ _ _ _ => (pg_name (i := 3) nd rfl (Or.inl rfl))) (fun _ _ _ _ _ => pts_nil) (fun _ _ _ _ _ => (pe_tup (pa_cons (pv 3) (pa_cons (pe_dget (hu_of hr) (pe_ix (r := rIxL K) ix_list (pv 0) pe_int (fun _ _ => rfl)) (pv 3) (fun _ _ => rfl)) pa_nil))))) pa_nil)) pa_nil)))))), ?_⟩
    refine sq fun U hU => ?_
    walk_at "rd"
    refine ⟨_, SqL.of ha, _, rfl, dn, rfl, _, .inl hdn, _, keys_n ns, by rw [List.length_map]; omega, fun ys p py sy hp => ?_⟩
    rw [sorted_names okn py sy]
    have s1 : Same H (upd H p (.lst ((ns.map fun n => L1 n.1).map V.str))) := same_new hp
    have f1 : upd H p (.lst ((ns.map fun n => L1 n.1).map V.str)) p = some (.lst ((ns.map fun n => L1 n.1).map V.str)) := upd_same
    generalize upd H p (.lst ((ns.map fun n => L1 n.1).map V.str)) = H1 at s1 f1 ⊢
    refine ⟨⟨_, SqL.of f1⟩, lc_l (xs := (ns.map fun n => L1 n.1).map V.str) (pairP K H1 (ns.map nk)) fun D hD => ⟨pairP_0 hD, fun j H6 _ hP => SqL.of (hP.1 _ _ f1), ?_, ?_⟩⟩
    · rintro j y H6 hy hP
      obtain ⟨x, hx, rfl⟩ := map_at hy
      obtain ⟨n, hn, rfl⟩ := map_at hx
      unfold Lturn
      walk_at "rd"
      exact ⟨_, SqL.of (hP.1 _ _ (s1 _ _ ha)), _, rfl, dn, rfl, _, get_n (hP.1 _ _ (s1 _ _ hdn)) okn.2.2.2 (List.mem_of_getElem? hn), by omega, fun N hN => pairP_step (kv := nk n) (by rw [List.length_map]; omega) hP hD (by rw [List.getElem?_map, hn]; rfl) hN rfl rfl⟩
    · rintro H6 ⟨hs, zs, hL, hP⟩
      rw [List.length_map, List.length_map, List.take_of_length_le (by rw [List.length_map]; exact Nat.le_refl _)] at hP
      refine ⟨D, rfl, zs, SqL.of hL, fun l o hl ho => hU _ _ ?_⟩
      clear hU
      have s7 : Same H6 (upd H6 l (.frz o (.tup zs))) := same_new hl
      have hnl : PrsAt K (upd H6 l (.frz o (.tup zs))) l (ns.map nk) := ⟨zs, .new ho, hP.up s7⟩
      have s07 := s1.trans (hs.trans s7)
      generalize upd H6 l (.frz o (.tup zs)) = H7 at s7 hnl s07 ⊢
      walk_at "rd"
      refine ⟨_, SqL.of (s07 _ _ ha), _, rfl, dc, rfl, _, .inl (s07 _ _ hdc), _, keys_c ds, by rw [List.length_map]; omega, fun ys p py sy hp => ?_⟩
      rw [srt_keys py sy]
      have s8 : Same H7 (upd H7 p (.lst (((srt ds).map fun d => (d.1 : Int)).map V.int))) := same_new hp
      have f8 : upd H7 p (.lst (((srt ds).map fun d => (d.1 : Int)).map V.int)) p = some (.lst (((srt ds).map fun d => (d.1 : Int)).map V.int)) := upd_same
      generalize upd H7 p (.lst (((srt ds).map fun d => (d.1 : Int)).map V.int)) = H8 at s8 f8 ⊢
      have s08 := s07.trans s8
      refine ⟨⟨_, SqL.of f8⟩, lc_l (xs := ((srt ds).map fun d => (d.1 : Int)).map V.int) (pairP K H8 ((srt ds).map ck)) fun D2 hD2 => ⟨pairP_0 hD2, fun j H9 _ hP => SqL.of (hP.1 _ _ f8), ?_, ?_⟩⟩
      · rintro j y H9 hy hP
        obtain ⟨x, hx, rfl⟩ := map_at hy
        obtain ⟨c, hc, rfl⟩ := map_at hx
        have s09 := s08.trans hP.1
        unfold Lturn
        walk_at "rd"
        exact ⟨_, SqL.of (s09 _ _ ha), _, rfl, dc, rfl, _, get_d (s09 _ _ hdc) okd.2.2 ((srt_perm ds).mem_iff.mp (List.mem_of_getElem? hc)), by omega, fun N hN => pairP_step (kv := ck c) (by rw [List.length_map, srt_len]; omega) hP hD2 (by rw [List.getElem?_map, hc]; rfl) hN rfl rfl⟩
      · rintro H9 ⟨hs9, ws, hL9, hP9⟩
        rw [List.length_map, List.length_map, List.take_of_length_le (by rw [List.length_map]; exact Nat.le_refl _)] at hP9
        refine ⟨D2, rfl, ws, SqL.of hL9, fun l2 o2 hl2 ho2 x dx hx hdx hne => ?_⟩
        have sl : Same H9 (upd H9 l2 (.frz o2 (.tup ws))) := same_new hl2
        have hcl : PrsAt K (upd H9 l2 (.frz o2 (.tup ws))) l2 ((srt ds).map ck) := ⟨ws, .new ho2, hP9.up sl⟩
        have hn2 : PrsAt K (upd H9 l2 (.frz o2 (.tup ws))) l (ns.map nk) := hnl.up (s8.trans (hs9.trans sl))
        generalize upd H9 l2 (.frz o2 (.tup ws)) = H10 at sl hcl hn2 hx hdx ⊢
        have ms := fun (H4 : Hp) (b4 : But x (upd (upd H10 dx (.own x)) x (.ins C dx [])) H4) => make_same hx hdx b4
        exact ⟨x, _, l, l2, ns, _, rfl, upd_same, PrsAt.make hx hdx hn2, PrsAt.make hx hdx hcl, okn, okc, fun H4 b4 st => ⟨rfl, k x H4 (s08.trans (hs9.trans (sl.trans (ms H4 b4)))) st⟩⟩
end
end K39S

set_option Elab.async false
set_option linter.all false
set_option maxRecDepth 100000
set_option maxHeartbeats 2000000
/-! d != {} -/
namespace De
open PySem PySem.Spec PyProof.Rows L2
section
variable {K : PySem.W.Frag} {σ : L2.St} {H H' : Hp} {ta : TE} {g : TG} {tb : TS} {D : Ends}
theorem tFor_str : tFor (iStr ta) g tb D σ H = ta σ H fun v H1 => ∃ x, v = .str x ∧ tFor (fun _ H R => R (Its x) H) g tb D σ H1 := rfl
theorem for_s {z : Str} (Pv : Nat → L2.St → Hp → Prop) (h0 : Pv 0 σ H) (hs : ∀ i c σ H, z.cps.toList[i]? = some c → Pv i σ H → g (.str ⟨#[c]⟩) σ H fun σ2 H2 => tb { D with nx := Pv (i + 1), ct := Pv (i + 1), bk := D.nx } σ2 H2) (hd : ∀ σ H, Pv z.cps.toList.length σ H → D.nx σ H) :
    tFor (fun _ H R => R (Its z) H) g tb D σ H := for_it walk_str Pv h0 (fun _ _ _ _ _ => trivial) (fun i x σ H H' hi hp hy => by
      obtain ⟨e, c, hc, hx⟩ := hy
      subst e hx
      exact hs i c σ _ (by rw [Array.getElem?_toList]; exact hc) hp) (fun σ H h => hd σ H (by simpa using h))
end
def rNeDE : R2 := fun x y H Q => ∃ a b ks, x = .ref a ∧ y = .ref b ∧ H a = some (.dK ks) ∧ H b = some (.dK []) ∧ Q (.bl (!ks.isEmpty)) H
theorem op_neDE {X : Cx} (hu : X.A.units < cLine) : OpR X (compareOp .NotEq) rNeDE := by
  intro pins s σ H x y v u Q I rx ry h
  obtain ⟨a, b, ks, rfl, rfl, ea, eb, q⟩ := h
  obtain rfl : v = Value.ref a := rx
  obtain rfl : u = Value.ref b := ry
  obtain ⟨_, ya, va, ra, da⟩ := (show ObjOk X.prog X.w H s.heap a (.dK ks) from I.hok a _ ea)
  obtain ⟨_, yb, vb, rb, db⟩ := (show ObjOk X.prog X.w H s.heap b (.dK []) from I.hok b _ eb)
  have lb : vb.length = 0 := by rw [← rb.length]; rfl
  have la : va.length = ks.length := ra.length.symm
  cases ks with
  | nil =>
    have la : va.length = 0 := la
    exact PySem.W.keq_ne (knd := mixKind X.prog X.w) (r := true) ya yb da db hu (fun _ => hits_all rb ra (fun p hp => nomatch hp)) (fin_bl I q (by simp [la, lb]))
  | cons k ks =>
    rw [List.length_cons] at la
    exact PySem.W.keq_ne (knd := mixKind X.prog X.w) (r := true) ya yb da db hu (fun e => absurd e (by omega)) (fin_bl I q (by simp [la, lb]))
end De

set_option Elab.async false
set_option linter.all false
set_option maxRecDepth 100000
set_option maxHeartbeats 4000000
namespace K39S
open PySem PySem.Spec PyProof.Rows L2 Rd Dt Dq Pk Ln En Sx Sy So Sr Lk
local macro_rules | `(tactic| walk_at "rd") => `(tactic| try simp only [↓Lk.tLockE_, ↓Lk.tLock_, ↓Lk.tLc_keys, ↓Lk.tFor_keys, ↓Sy.tTupP_, ↓Sy.rTupP_, ↓Sy.rCatP_, ↓Sy.rSlP_, ↓Sy.rDictT_, ↓Sy.tDGet_, ↓Sy.tDGet1_, ↓Sy.tDIn_, ↓Sy.tDNotIn_, ↓Sy.tMeth_, ↓Sy.tMethKw_, ↓Sy.rSortedS_, ↓Sx.rIsT_, ↓En.tFor_enumT, ↓Sy.tFor_enumL, ↓Rv.tMakeKw_, ↓Prp.tProp_, ↓Lo.tBits_, ↓Lo.tJs_n, ↓Lo.tJs_c, ↓Lo.tFmt_, ↓Lo.gFld_, ↓Lo.tMake_, ↓Lo.rOwn_, ↓Rg.tFor_range3, ↓Rg.tLc_range3, ↓Rg.tLstC_, ↓Rg.tLc_rngV, ↓Le.rNeLE_, ↓Le.rEqLE_, ↓Ls.tLc_str, ↓Ls.sDPut_, ↓Rl.rReprL_, ↓Rl.tCallKS_, ↓Ob.tFld_, ↓Ob.sFld_, ↓tVar_, ↓tC_, ↓tM1, ↓tDNewK_, ↓tOp_, ↓tUn_, ↓rI_, ↓rI0_, ↓rU_, ↓eq_ii, ↓ne_ii, ↓eq_ss, ↓ne_ss, ↓eq_bb, ↓ne_bb, ↓tAndV_, ↓tOrV_, ↓tNotV_, ↓tIf_, ↓tTest_, ↓tB_, ↓tAnd_, ↓tOr_, ↓tNot_, ↓tChain_, ↓tNil_, ↓tCons_, ↓tTup_, ↓tLst_, ↓tCB_, ↓tCall_, ↓tSeq_, ↓tNext_, ↓tRet_, ↓tRetN_, ↓tDrop_, ↓tBreak_, ↓tNever_, ↓tIfS_, ↓tAsg_, ↓gName_, ↓gTup_, ↓gCons_, ↓gNil_, ↓gSub_, ↓tPar_, ↓tPar3_, ↓tSl_, ↓tNoPart_, ↓tPart_, ↓tBM_, ↓tFor_range1, ↓tFor_range2, ↓tFor_list, ↓tFor_tup, L2.start, List.headD_cons, List.headD_nil, List.tail_cons, List.map_cons, List.map_nil, List.length_cons, List.length_nil, List.replicate, List.append_nil, List.nil_append, List.cons_append, List.getElem?_cons_zero, List.getElem?_cons_succ, List.set_cons_zero, List.set_cons_succ, Option.some.injEq, V.int.injEq, V.bl.injEq, V.str.injEq, V.ref.injEq, exists_eq_left, exists_eq_left', exists_eq_right, exists_eq, exists_and_left, and_true, true_and, decide_eq_true_eq, Nat.reduceAdd, Nat.reduceSub, Nat.add_zero, Nat.zero_add, List.cons.injEq, Bool.not_eq_true', decide_eq_false_iff_not, eq_self, reduceCtorEq, Bool.false_eq_true, if_true, if_false, ite_true, ite_false, and_self, ↓tLc_range1, ↓tLc_range2, ↓tLc_list, ↓tLc_tup, ↓tYes_, wipe0, wipe1, ↓tCallS_, ↓rIxL_, ↓rIxT_, ↓rSlL_, ↓rCat_, ↓rSetL_, ↓rRep_, ↓rGcd_, ↓tCallK_, ↓gUnl_, ↓tRaise_, decide_true, decide_false, not_true_eq_false, not_false_eq_true, false_and, or_false, false_or, and_false, and_assoc, exists_const, forall_const, forall_eq'])
section
variable {P : Program} {w : World} {K : PySem.W.Frag} {mg : Str → Option Value} {base : Heap}
theorem sc_shn : FnScope ["_law_mine", "_law_heads", "_law_tails", "_law_sign", "_law_spot"] ["_law_mine"] (defScope (top 46)) := ⟨rfl, rfl, rfl, by decide +kernel, rfl, by decide +kernel, by decide +kernel⟩
theorem ok_shn {f : Addr} {fd : FuncData} (T : Tx mg) (F : FD K "_law_shown" (top 46) f fd) : FnOk P w K mg base CX0 1 f fd ["_law_mine"] spTxt := by
  refine F.ok sc_shn (fun vs H Q E h => ?_) (fun cdv A outer s H vs Q E hr h => ?_)
  · obtain ⟨_, _, _, _, _, _, rfl, _⟩ := h
    rfl
  · obtain ⟨m, a, dn, dc, ns, ds, rfl, ⟨ha, hdn, hdc, okn, okd⟩, hm, k⟩ := h
    have nd := sc_shn.nd
    have zl : (1000000 : Nat) ≤ sizeLine := line_big
    refine ⟨_, (pss_cons (ps_set (i := 1) nd rfl (Or.inl rfl) (pe_join pe_str (pe_lc (own := [("_law_sign", 3)]) rfl nd (pi_list (pe_callB (call_sortedD rfl) (by rfl) T.b_sorted (by decide +kernel) (pa_cons (pe_ix (r := rIxL K) ix_list (pv 0) pe_int (fun _ _ => rfl)) pa_nil))) (blkOk_by (N := ["_law_mine", "_law_heads", "_law_tails", "_law_sign", "_law_spot"]) (sc := defScope (top 46)) (by decide +kernel)) (fun _ _ _ _ _ => (pg_name (i := 3) nd rfl (Or.inl rfl))) (fun _ _ _ _ _ => pts_nil) (fun _ _ _ _ _ => (pe_op op_add_str (pe_op op_add_str (pv 3) pe_str) (pe_callTy call_str_int (by rfl) T.b_str (by decide +kernel) (pa_cons (pe_dget (hu_of hr) (pe_ix (r := rIxL K) ix_list (pv 0) pe_int (fun _ _ => rfl)) (pv 3) (fun _ _ => rfl)) pa_nil)))))))
        (pss_cons (ps_set (i := 2) nd rfl (Or.inl rfl) (pe_join pe_str (pe_lc (own := [("_law_spot", 4)]) rfl nd (pi_list (pe_callB (Si.call_sortedDIA rfl) (by rfl) T.b_sorted (by decide +kernel) (pa_cons (pe_ix (r := rIxL K) ix_list (pv 0) pe_int (fun _ _ => rfl)) pa_nil))) (blkOk_by (N := ["_law_mine", "_law_heads", "_law_tails", "_law_sign", "_law_spot"]) (sc := defScope (top 46)) (by decide +kernel)) (fun _ _ _ _ _ => (pg_name (i := 4) nd rfl (Or.inl rfl))) (fun _ _ _ _ _ => pts_nil) (fun _ _ _ _ _ => (pe_op op_add_str (pe_op op_add_str (pe_callTy call_str_int (by rfl) T.b_str (by decide +kernel) (pa_cons (pv 4) pa_nil)) pe_str) (pe_callTy call_str_int (by rfl) T.b_str (by decide +kernel) (pa_cons (pe_dget (hu_of hr) (pe_ix (r := rIxL K) ix_list (pv 0) pe_int (fun _ _ => rfl)) (pv 4) (fun _ _ => rfl)) pa_nil)))))))
        (pss_one (ps_ret (pe_op op_add_str (pe_op op_add_str (pv 1) pe_str) (pe_ifExp (pt_cmpR (De.op_neDE (Nat.lt_of_succ_lt (hu_of hr))) (pe_ix (r := rIxL K) ix_list (pv 0) pe_int (fun _ _ => rfl)) pe_dnewK (nomark _)) (pv 2) pe_str)))))), ?_⟩
    refine sq fun U hU => ?_
    walk_at "rd"
    have ln := okn.2.1
    refine ⟨⟨_, rfl⟩, _, SqL.of ha, _, rfl, dn, rfl, _, .inl hdn, _, keys_n ns, by rw [List.length_map]; omega, fun ys p py sy hp => ?_⟩
    rw [sorted_names okn py sy]
    have s1 : Same H (upd H p (.lst ((ns.map fun n => L1 n.1).map V.str))) := same_new hp
    have f1 : upd H p (.lst ((ns.map fun n => L1 n.1).map V.str)) p = some (.lst ((ns.map fun n => L1 n.1).map V.str)) := upd_same
    generalize upd H p (.lst ((ns.map fun n => L1 n.1).map V.str)) = H1 at s1 f1 ⊢
    refine ⟨⟨_, SqL.of f1⟩, lc_l (xs := (ns.map fun n => L1 n.1).map V.str) (txP H1 nameW ns) fun D hD => ⟨⟨same_new hD, upd_same⟩, fun j H6 _ hP => SqL.of (hP.1 _ _ f1), ?_, ?_⟩⟩
    · rintro j y H6 hy hP
      obtain ⟨x, hx, rfl⟩ := map_at hy
      obtain ⟨n, hn, rfl⟩ := map_at hx
      obtain ⟨b1, b2, b3⟩ := okn.2.2.1 n (List.mem_of_getElem? hn)
      unfold Lturn
      walk_at "rd"
      have l1 := nlen b3
      have e1 : (L1 n.1).length = 1 := rfl
      have e2 : (Str.ofString "=").length = 1 := by decide
      have en : Str.ofString (toString (n.2 : Int)) = numT n.2 := rfl
      exact ⟨by omega, _, SqL.of (hP.1 _ _ (s1 _ _ ha)), _, rfl, dn, rfl, _, get_n (hP.1 _ _ (s1 _ _ hdn)) okn.2.2.2 (List.mem_of_getElem? hn), _, rfl, lg (by omega), by rw [Str.length_append, en]; omega, txP_step (by omega) hP hD hn _ rfl⟩
    · rintro H6 ⟨hs, hL⟩
      rw [List.length_map, List.length_map, List.take_length] at hL
      have es : (Str.ofString " ").length = 1 := by decide
      have s6 : Same H H6 := s1.trans hs
      have okc := okd.cl hm
      have lc := okd.1
      have h2 := sum_le (fun s : Str => s.length) 6 (ns.map nameW) (fun s hs' => by
        obtain ⟨n, hn, rfl⟩ := List.mem_map.mp hs'
        exact nameW_len (okn.2.2.1 n hn).2.2)
      rw [List.length_map] at h2
      have h4 := sum_le (fun s : Str => s.length) 9 ((srt ds).map cellW) (fun s hs' => by
        obtain ⟨n, hn, rfl⟩ := List.mem_map.mp hs'
        exact cellW_len (okc.2.1 n hn).2.1 (okc.2.1 n hn).2.2)
      rw [List.length_map, srt_len] at h4
      refine ⟨D, rfl, ns.map nameW, .inl (SqL.of hL), by rw [es, List.length_map]; omega, hU _ _ ?_⟩
      clear hU
      refine sq fun U hU => ?_
      walk_at "rd"
      refine ⟨⟨_, rfl⟩, _, SqL.of (s6 _ _ ha), _, rfl, dc, rfl, _, .inl (s6 _ _ hdc), _, keys_c ds, by rw [List.length_map]; omega, fun ys p py sy hp => ?_⟩
      rw [srt_keys py sy]
      have s7 : Same H6 (upd H6 p (.lst (((srt ds).map fun d => (d.1 : Int)).map V.int))) := same_new hp
      have f7 : upd H6 p (.lst (((srt ds).map fun d => (d.1 : Int)).map V.int)) p = some (.lst (((srt ds).map fun d => (d.1 : Int)).map V.int)) := upd_same
      generalize upd H6 p (.lst (((srt ds).map fun d => (d.1 : Int)).map V.int)) = H7 at s7 f7 ⊢
      refine ⟨⟨_, SqL.of f7⟩, lc_l (xs := ((srt ds).map fun d => (d.1 : Int)).map V.int) (txP H7 cellW (srt ds)) fun D2 hD2 => ⟨⟨same_new hD2, upd_same⟩, fun j H8 _ hP => SqL.of (hP.1 _ _ f7), ?_, ?_⟩⟩
      · rintro j y H8 hy hP
        obtain ⟨x, hx, rfl⟩ := map_at hy
        obtain ⟨c, hc, rfl⟩ := map_at hx
        obtain ⟨b1, b2, b3⟩ := okc.2.1 c (List.mem_of_getElem? hc)
        have s8 := s6.trans (s7.trans hP.1)
        unfold Lturn
        walk_at "rd"
        have l1 := nlen b2
        have l2 := nlen b3
        have e2 : (Str.ofString ">").length = 1 := by decide
        have en1 : Str.ofString (toString (c.1 : Int)) = numT c.1 := rfl
        have en2 : Str.ofString (toString (c.2 : Int)) = numT c.2 := rfl
        have mc := List.mem_of_getElem? hc
        refine ⟨lg (by omega), by rw [en1]; omega, _, SqL.of (s8 _ _ ha), _, rfl, dc, rfl, _, get_d (s8 _ _ hdc) okd.2.2 ((srt_perm ds).mem_iff.mp mc), _, rfl, lg (by omega), by rw [Str.length_append, en1, en2]; omega, txP_step okc.1 hP hD2 hc _ rfl⟩
      · rintro H8 ⟨hs8, hL8⟩
        rw [List.length_map, List.length_map, List.take_length] at hL8
        refine ⟨D2, rfl, (srt ds).map cellW, .inl (SqL.of hL8), by rw [es, List.length_map, srt_len]; omega, hU _ _ ?_⟩
        clear hU
        have s8 : Same H H8 := s6.trans (s7.trans hs8)
        walk_at "rd"
        have sl := storeT_len okn okc
        have sl2 : (Txt.join (Str.ofString " ") (ns.map nameW)).length + (Str.ofString " | ").length + (cellsT (srt ds)).length ≤ 5040 := by
          rw [← Str.length_append, ← Str.length_append]
          exact sl
        refine ⟨by omega, _, SqL.of (s8 _ _ ha), _, rfl, fun p hp => ⟨dc, p, ds.map ck, rfl, rfl, same_new hp _ _ (s8 _ _ hdc), upd_same, _, rfl, ?_⟩⟩
        have e0 : (ds.map ck).isEmpty = (srt ds).isEmpty := by
          rw [List.isEmpty_map]
          have l := srt_len ds
          rw [Bool.eq_iff_iff, List.isEmpty_iff_length_eq_zero, List.isEmpty_iff_length_eq_zero]
          omega
        have kk := k _ (s8.trans (same_new (o := .dK []) hp))
        by_cases ce : srt ds = []
        · have ec : cellsT (srt ds) = "none" := if_pos ce
          rw [e0, ce, if_neg (by decide)]
          rw [ec] at sl2
          refine ⟨by rw [Str.length_append]; exact Nat.le_trans sl2 (by omega), ?_⟩
          have : storeT ns (srt ds) = Txt.join (Str.ofString " ") (ns.map nameW) ++ Str.ofString " | " ++ Str.ofString "none" := by
            unfold storeT
            rw [ec]
            rfl
          rw [← this]
          exact kk
        · have ec : cellsT (srt ds) = Txt.join " " ((srt ds).map cellW) := if_neg ce
          rw [e0, if_pos (by cases h : srt ds with
            | nil => exact absurd h ce
            | cons _ _ => rfl)]
          rw [ec] at sl2
          refine ⟨by rw [Str.length_append]; exact Nat.le_trans sl2 (by omega), ?_⟩
          have : storeT ns (srt ds) = Txt.join (Str.ofString " ") (ns.map nameW) ++ Str.ofString " | " ++ Txt.join (Str.ofString " ") ((srt ds).map cellW) := by
            unfold storeT
            rw [ec]
            rfl
          rw [← this]
          exact kk
end
end K39S

set_option Elab.async false
set_option linter.all false
set_option maxRecDepth 100000
set_option maxHeartbeats 4000000
namespace K39S
open PySem PySem.Spec PyProof.Rows L2 Rd Dt Dq Pk Ln En Sx Sy So Sr Lk
local macro_rules | `(tactic| walk_at "rd") => `(tactic| try simp only [↓Lk.tLockE_, ↓Lk.tLock_, ↓Lk.tLc_keys, ↓Lk.tFor_keys, ↓Sy.tTupP_, ↓Sy.rTupP_, ↓Sy.rCatP_, ↓Sy.rSlP_, ↓Sy.rDictT_, ↓Sy.tDGet_, ↓Sy.tDGet1_, ↓Sy.tDIn_, ↓Sy.tDNotIn_, ↓Sy.tMeth_, ↓Sy.tMethKw_, ↓Sy.rSortedS_, ↓Sx.rIsT_, ↓En.tFor_enumT, ↓Sy.tFor_enumL, ↓Rv.tMakeKw_, ↓Prp.tProp_, ↓Lo.tBits_, ↓Lo.tJs_n, ↓Lo.tJs_c, ↓Lo.tFmt_, ↓Lo.gFld_, ↓Lo.tMake_, ↓Lo.rOwn_, ↓Rg.tFor_range3, ↓Rg.tLc_range3, ↓Rg.tLstC_, ↓Rg.tLc_rngV, ↓Le.rNeLE_, ↓Le.rEqLE_, ↓Ls.tLc_str, ↓Ls.sDPut_, ↓Rl.rReprL_, ↓Rl.tCallKS_, ↓Ob.tFld_, ↓Ob.sFld_, ↓tVar_, ↓tC_, ↓tM1, ↓tDNewK_, ↓tOp_, ↓tUn_, ↓rI_, ↓rI0_, ↓rU_, ↓eq_ii, ↓ne_ii, ↓eq_ss, ↓ne_ss, ↓eq_bb, ↓ne_bb, ↓tAndV_, ↓tOrV_, ↓tNotV_, ↓tIf_, ↓tTest_, ↓tB_, ↓tAnd_, ↓tOr_, ↓tNot_, ↓tChain_, ↓tNil_, ↓tCons_, ↓tTup_, ↓tLst_, ↓tCB_, ↓tCall_, ↓tSeq_, ↓tNext_, ↓tRet_, ↓tRetN_, ↓tDrop_, ↓tBreak_, ↓tNever_, ↓tIfS_, ↓tAsg_, ↓gName_, ↓gTup_, ↓gCons_, ↓gNil_, ↓gSub_, ↓tPar_, ↓tPar3_, ↓tSl_, ↓tNoPart_, ↓tPart_, ↓tBM_, ↓tFor_range1, ↓tFor_range2, ↓tFor_list, ↓tFor_tup, L2.start, List.headD_cons, List.headD_nil, List.tail_cons, List.map_cons, List.map_nil, List.length_cons, List.length_nil, List.replicate, List.append_nil, List.nil_append, List.cons_append, List.getElem?_cons_zero, List.getElem?_cons_succ, List.set_cons_zero, List.set_cons_succ, Option.some.injEq, V.int.injEq, V.bl.injEq, V.str.injEq, V.ref.injEq, exists_eq_left, exists_eq_left', exists_eq_right, exists_eq, exists_and_left, and_true, true_and, decide_eq_true_eq, Nat.reduceAdd, Nat.reduceSub, Nat.add_zero, Nat.zero_add, List.cons.injEq, Bool.not_eq_true', decide_eq_false_iff_not, eq_self, reduceCtorEq, Bool.false_eq_true, if_true, if_false, ite_true, ite_false, and_self, ↓tLc_range1, ↓tLc_range2, ↓tLc_list, ↓tLc_tup, ↓tYes_, wipe0, wipe1, ↓tCallS_, ↓rIxL_, ↓rIxT_, ↓rSlL_, ↓rCat_, ↓rSetL_, ↓rRep_, ↓rGcd_, ↓tCallK_, ↓gUnl_, ↓tRaise_, decide_true, decide_false, not_true_eq_false, not_false_eq_true, false_and, or_false, false_or, and_false, and_assoc, exists_const, forall_const, forall_eq'])
section
variable {P : Program} {w : World} {K : PySem.W.Frag} {mg : Str → Option Value} {base : Heap}
/-! ### stores under way -/
structure HpB (K : PySem.W.Frag) (C : Addr) : Prop where
  cl : Cls K C
  nN : NoAttr K C "names"
  nC : NoAttr K C "cells"
  nU : NoAttr K C "used"
  nM : NoAttr K C "made"
abbrev hf (d1 d2 d3 d4 : Addr) : List (Str × V) := [("names", .ref d1), ("cells", .ref d2), ("used", .ref d3), ("made", .ref d4)]
/-- a heap: names, cells, used and made places -/
def HpA (C : Addr) (H : Hp) (h : Addr) (ns cs us ms : List (Nat × Nat)) : Prop := ∃ (dx d1 d2 d3 d4 : Addr), H h = some (.ins C dx (hf d1 d2 d3 d4)) ∧ H d1 = some (.dK (ns.map nk)) ∧ H d2 = some (.dK (cs.map ck)) ∧ H d3 = some (.dK (us.map ck)) ∧ H d4 = some (.dK (ms.map ck)) ∧ [d1, d2, d3, d4].Nodup
theorem HpA.up {C : Addr} {H H' : Hp} (s : Same H H') {h : Addr} {ns cs us ms : List (Nat × Nat)} (g : HpA C H h ns cs us ms) : HpA C H' h ns cs us ms := by
  obtain ⟨dx, d1, d2, d3, d4, h1, h2, h3, h4, h5, h6⟩ := g
  exact ⟨dx, d1, d2, d3, d4, s _ _ h1, s _ _ h2, s _ _ h3, s _ _ h4, s _ _ h5, h6⟩
theorem bnone {u p : Addr} {H H' : Hp} (a : But u H H') (n : H' p = none) (ne : p ≠ u) : H p = none := by
  cases e : H p with
  | none => rfl
  | some o =>
    have := a _ _ ne e
    rw [n] at this
    cases this
/-- a heap just made -/
def HpF (C : Addr) (H0 H : Hp) (h : Addr) (ns cs : List (Nat × Nat)) : Prop := ∃ (dx d1 d2 d3 d4 : Addr), H h = some (.ins C dx (hf d1 d2 d3 d4)) ∧ H d1 = some (.dK (ns.map nk)) ∧ H d2 = some (.dK (cs.map ck)) ∧ H d3 = some (.dK (cs.map ck)) ∧ H d4 = some (.dK []) ∧ [d1, d2, d3, d4].Nodup ∧
  H0 d1 = none ∧ H0 d2 = none ∧ H0 d3 = none ∧ H0 d4 = none
def spHI (K : PySem.W.Frag) (C : Addr) : Sp := fun vs H Q _ => ∃ (r dx an ac : Addr) (ns cs : List (Nat × Nat)), vs = [.ref r, .ref an, .ref ac] ∧ H r = some (.ins C dx []) ∧ PrsAt K H an (ns.map nk) ∧ PrsAt K H ac (cs.map ck) ∧ NmOk ns ∧ ClOk cs ∧
  ∀ H', But r H H' → HpF C H H' r ns cs → Q .non H'
theorem sc_hin : FnScope ["self", "names", "cells"] ["self", "names", "cells"] (defScope (inClass (top 28) 0)) := ⟨rfl, rfl, rfl, by decide +kernel, rfl, by decide +kernel, by decide +kernel⟩
theorem ok_hin {f C : Addr} {fd : FuncData} {q : Str} (T : Tx mg) (W : HpB K C) (F : FM K "__init__" q (inClass (top 28) 0) f fd) : FnOk P w K mg base CX0 1 f fd ["self", "names", "cells"] (spHI K C) := by
  refine F.ok sc_hin (fun vs H Q E h => ?_) (fun cdv A outer s H vs Q E hr h => ?_)
  · obtain ⟨_, _, _, _, _, _, rfl, _⟩ := h
    rfl
  · obtain ⟨r, dx, an, ac, ns, cs, rfl, hr0, hn, hc, okn, okc, k⟩ := h
    have nd := sc_hin.nd
    refine ⟨_, (pss_cons (ps_fld (pv 0) (pe_callTy (En.call_dictT (K := K) rfl rfl) (by rfl) T.b_dict (by decide +kernel) (pa_cons (pv 1) pa_nil)) rfl)
        (pss_cons (ps_fld (pv 0) (pe_callTy (En.call_dictT (K := K) rfl rfl) (by rfl) T.b_dict (by decide +kernel) (pa_cons (pv 2) pa_nil)) rfl)
        (pss_cons (ps_fld (pv 0) (pe_callTy (En.call_dictT (K := K) rfl rfl) (by rfl) T.b_dict (by decide +kernel) (pa_cons (pv 2) pa_nil)) rfl)
        (pss_one (ps_fld (pv 0) pe_dnewK rfl))))), ?_⟩
    refine sq fun U hU => ?_
    walk_at "rd"
    obtain ⟨xs, pl, prs⟩ := id hn
    obtain ⟨ps, rfl, pp⟩ := prs.refs
    refine ⟨ps, pl, _, pp, fun d1 hd1 => ⟨C, dx, [], ⟨by rw [upd_ne (ne_of_none hr0 hd1)]; exact hr0, W.cl, W.nN, by decide⟩, hU _ _ ?_⟩⟩
    clear hU
    rw [merge_n okn.2.2.2]
    have nd1 : d1 ≠ r := fun z => by rw [z, hr0] at hd1; cases hd1
    have b1 : But r H (upd (upd H d1 (.dK (ns.map nk))) r (.ins C dx (putF (Str.ofString "names") (.ref d1) []))) := fun c o n e => by rw [upd_ne n, upd_ne (ne_of_none e hd1)]; exact e
    have hr1 : upd (upd H d1 (.dK (ns.map nk))) r (.ins C dx (putF (Str.ofString "names") (.ref d1) [])) r = some (.ins C dx [("names", .ref d1)]) := upd_same
    have e1 : upd (upd H d1 (.dK (ns.map nk))) r (.ins C dx (putF (Str.ofString "names") (.ref d1) [])) d1 = some (.dK (ns.map nk)) := by rw [upd_ne nd1, upd_same]
    generalize upd (upd H d1 (.dK (ns.map nk))) r (.ins C dx (putF (Str.ofString "names") (.ref d1) [])) = H1 at b1 hr1 e1 ⊢
    have hc1 := hc.but b1 hr0 ins_no
    clear pl prs pp hn
    refine sq fun U hU => ?_
    walk_at "rd"
    obtain ⟨xs, pl, prs⟩ := id hc1
    obtain ⟨ps, rfl, pp⟩ := prs.refs
    refine ⟨ps, pl, _, pp, fun d2 hd2 => ⟨C, dx, [("names", .ref d1)], ⟨by rw [upd_ne (ne_of_none hr1 hd2)]; exact hr1, W.cl, W.nC, show 1 < 1000 by decide⟩, hU _ _ ?_⟩⟩
    clear hU
    rw [merge_c okc.2.2]
    have nd2 : d2 ≠ r := fun z => by rw [z, hr1] at hd2; cases hd2
    have n12 : d1 ≠ d2 := ne_of_none e1 hd2
    have b2 : But r H1 (upd (upd H1 d2 (.dK (cs.map ck))) r (.ins C dx (putF (Str.ofString "cells") (.ref d2) [("names", .ref d1)]))) := fun c o n e => by rw [upd_ne n, upd_ne (ne_of_none e hd2)]; exact e
    have hr2 : upd (upd H1 d2 (.dK (cs.map ck))) r (.ins C dx (putF (Str.ofString "cells") (.ref d2) [("names", .ref d1)])) r = some (.ins C dx [("names", .ref d1), ("cells", .ref d2)]) := upd_same
    have e2 : upd (upd H1 d2 (.dK (cs.map ck))) r (.ins C dx (putF (Str.ofString "cells") (.ref d2) [("names", .ref d1)])) d2 = some (.dK (cs.map ck)) := by rw [upd_ne nd2, upd_same]
    generalize upd (upd H1 d2 (.dK (cs.map ck))) r (.ins C dx (putF (Str.ofString "cells") (.ref d2) [("names", .ref d1)])) = H2 at b2 hr2 e2 ⊢
    have hc2 : PrsAt K H2 ac (cs.map ck) := PrsAt.but b2 hr1 ins_no ⟨_, pl, prs⟩
    have e12 := b2 _ _ nd1 e1
    clear pl prs pp hc1
    refine sq fun U hU => ?_
    walk_at "rd"
    obtain ⟨xs, pl, prs⟩ := id hc2
    obtain ⟨ps, rfl, pp⟩ := prs.refs
    refine ⟨ps, pl, _, pp, fun d3 hd3 => ⟨C, dx, [("names", .ref d1), ("cells", .ref d2)], ⟨by rw [upd_ne (ne_of_none hr2 hd3)]; exact hr2, W.cl, W.nU, show 2 < 1000 by decide⟩, hU _ _ ?_⟩⟩
    clear hU
    rw [merge_c okc.2.2]
    have nd3 : d3 ≠ r := fun z => by rw [z, hr2] at hd3; cases hd3
    have n13 : d1 ≠ d3 := ne_of_none e12 hd3
    have n23 : d2 ≠ d3 := ne_of_none e2 hd3
    have b3 : But r H2 (upd (upd H2 d3 (.dK (cs.map ck))) r (.ins C dx (putF (Str.ofString "used") (.ref d3) [("names", .ref d1), ("cells", .ref d2)]))) := fun c o n e => by rw [upd_ne n, upd_ne (ne_of_none e hd3)]; exact e
    have hr3 : upd (upd H2 d3 (.dK (cs.map ck))) r (.ins C dx (putF (Str.ofString "used") (.ref d3) [("names", .ref d1), ("cells", .ref d2)])) r = some (.ins C dx [("names", .ref d1), ("cells", .ref d2), ("used", .ref d3)]) := upd_same
    have e3 : upd (upd H2 d3 (.dK (cs.map ck))) r (.ins C dx (putF (Str.ofString "used") (.ref d3) [("names", .ref d1), ("cells", .ref d2)])) d3 = some (.dK (cs.map ck)) := by rw [upd_ne nd3, upd_same]
    generalize upd (upd H2 d3 (.dK (cs.map ck))) r (.ins C dx (putF (Str.ofString "used") (.ref d3) [("names", .ref d1), ("cells", .ref d2)])) = H3 at b3 hr3 e3 ⊢
    have e13 := b3 _ _ nd1 e12
    have e23 := b3 _ _ nd2 e2
    clear pl prs pp hc2
    walk_at "rd"
    refine fun d4 hd4 => ⟨C, dx, [("names", .ref d1), ("cells", .ref d2), ("used", .ref d3)], ⟨by rw [upd_ne (ne_of_none hr3 hd4)]; exact hr3, W.cl, W.nM, show 3 < 1000 by decide⟩, ?_⟩
    have nd4 : d4 ≠ r := fun z => by rw [z, hr3] at hd4; cases hd4
    have n14 : d1 ≠ d4 := ne_of_none e13 hd4
    have n24 : d2 ≠ d4 := ne_of_none e23 hd4
    have n34 : d3 ≠ d4 := ne_of_none e3 hd4
    have b4 : But r H3 (upd (upd H3 d4 (.dK [])) r (.ins C dx (putF (Str.ofString "made") (.ref d4) [("names", .ref d1), ("cells", .ref d2), ("used", .ref d3)]))) := fun c o n e => by rw [upd_ne n, upd_ne (ne_of_none e hd4)]; exact e
    refine k _ (((b1.trans b2).trans b3).trans b4) ⟨dx, d1, d2, d3, d4, upd_same, b4 _ _ nd1 e13, b4 _ _ nd2 e23, b4 _ _ nd3 e3, by rw [upd_ne nd4, upd_same], ?_⟩
    refine ⟨by simp [n12, n13, n14, n23, n24, n34], hd1, bnone b1 hd2 nd2, bnone b1 (bnone b2 hd3 nd3) nd3, bnone b1 (bnone b2 (bnone b3 hd4 nd4) nd4) nd4⟩
end
end K39S

set_option Elab.async false
set_option linter.all false
set_option maxRecDepth 100000
set_option maxHeartbeats 4000000
/-! deeds on stores, in plain words -/
namespace Dd
open PySem PySem.Spec PyProof.Rows L2 Rd Dt Pk Ln En Sx Sy So
abbrev NN := List (Nat × Nat)
def hd (s : Str) : Nat := s.cps.toList.headD 0
/-- the place of a letter, or END -/
def pl (ns : NN) (s : Str) : Nat := if s = "END" then 0 else (look ns (hd s)).getD 0
def pu (ds : NN) (k v : Nat) : NN := if ds.any (fun d => decide (d.1 = k)) then ds.map (fun d => if d.1 = k then (d.1, v) else d) else ds ++ [(k, v)]
def dl (ds : NN) (k : Nat) : NN := ds.filter fun d => decide (d.1 ≠ k)
def ad (ps : List Nat) (k : Nat) : List Nat := if k ∈ ps then ps else ps ++ [k]
def tK (p : Nat) : Key × V := (.inl (p : Int), .bl true)
/-- the least number from 1 on that is not among some -/
def fr (S : List Nat) : Nat := ((List.range' 1 (S.length + 1)).find? fun n => decide (n ∉ S)).getD 0
inductive Deed
  | copy (a b : Str) | next (a b : Str) | tie (a b : Str) | new (a : Str) | drop (a : Str)
def Deed.data : Deed → PyData
  | .copy a b => .tuple [.str "copy", .str a, .str b]
  | .next a b => .tuple [.str "next", .str a, .str b]
  | .tie a b => .tuple [.str "tie", .str a, .str b]
  | .new a => .tuple [.str "new", .str a]
  | .drop a => .tuple [.str "drop", .str a]
def Deed.row : Deed → List Str
  | .copy a b => ["copy", a, b]
  | .next a b => ["next", a, b]
  | .tie a b => ["tie", a, b]
  | .new a => ["new", a]
  | .drop a => ["drop", a]
def Deed.words (d : Deed) : List Str := d.row.drop 1
theorem Deed.data_row (d : Deed) : d.data = .tuple (d.row.map .str) := by cases d <;> rfl
/-- a deed done: the place told, names and cells; us: the places that have been cells -/
def act (d : Deed) (ns cs : NN) (us : List Nat) : Option (Nat × NN × NN) := match d with
  | .copy a b => some (0, pu ns (hd a) (pl ns b), cs)
  | .new a => some (fr (ns.map (·.2) ++ cs.map (·.2) ++ us), pu ns (hd a) (fr (ns.map (·.2) ++ cs.map (·.2) ++ us)), pu cs (fr (ns.map (·.2) ++ cs.map (·.2) ++ us)) 0)
  | .next a b => (look cs (pl ns b)).map fun v => (pl ns b, pu ns (hd a) v, cs)
  | .tie a b => (look cs (pl ns a)).map fun _ => (pl ns a, ns, pu cs (pl ns a) (pl ns b))
  | .drop a => (look cs (pl ns a)).map fun _ => (pl ns a, ns, dl cs (pl ns a))
/-! ### dicts -/
theorem pu_gen {f : Nat × Nat → Key × V} {g : Nat → Key} (hf : ∀ d, f d = (g d.1, .int d.2)) (hg : ∀ a b, g a = g b → a = b) (ds : NN) (k v : Nat) : putK (ds.map f) (g k) (.int v) = (pu ds k v).map f := by
  unfold putK pu
  have e1 : (ds.map f).any (fun p => decide (p.1 = g k)) = ds.any (fun d => decide (d.1 = k)) := by
    rw [List.any_map]
    congr 1
    funext d
    show decide ((f d).1 = g k) = _
    rw [decide_eq_decide, hf]
    exact ⟨fun z => hg _ _ z, fun z => by rw [← z]⟩
  rw [e1]
  split
  · rw [List.map_map, List.map_map]
    refine List.map_congr_left fun d _ => ?_
    show (if (f d).1 = g k then _ else _) = f (if d.1 = k then (d.1, v) else d)
    by_cases c : d.1 = k
    · rw [if_pos c, if_pos (by rw [hf, ← c]), hf, hf]
    · rw [if_neg c, if_neg (fun z => c (by rw [hf] at z; exact hg _ _ z))]
  · rw [List.map_append]
    show _ = _ ++ [f (k, v)]
    rw [hf]
theorem pu_ck (ds : NN) (k v : Nat) : putK (ds.map ck) (.inl (k : Int)) (.int v) = (pu ds k v).map ck :=
  pu_gen (g := fun n => .inl (n : Int)) (fun _ => rfl) (fun a b z => by injection z with z; omega) ds k v
theorem pu_nk (ds : NN) (k v : Nat) : putK (ds.map nk) (.inr (L1 k)) (.int v) = (pu ds k v).map nk :=
  pu_gen (g := fun n => .inr (L1 n)) (fun _ => rfl) (fun a b z => by injection z with z; exact L1_inj z) ds k v
theorem dl_ck (ds : NN) (k : Nat) : dropK (ds.map ck) (.inl (k : Int)) = (dl ds k).map ck := by
  unfold dropK dl
  rw [List.filter_map]
  congr 1
  refine List.filter_congr fun d _ => ?_
  show decide ((Sum.inl (d.1 : Int) : Key) ≠ .inl (k : Int)) = _
  rw [decide_eq_decide]
  exact ⟨fun z e => z (by rw [e]), fun z e => z (by injection e with e; omega)⟩
theorem ad_tK (ps : List Nat) (k : Nat) : putK (ps.map tK) (.inl (k : Int)) (.bl true) = (ad ps k).map tK := by
  unfold putK ad
  have e1 : (ps.map tK).any (fun p => decide (p.1 = (.inl (k : Int) : Key))) = decide (k ∈ ps) := by
    rw [List.any_map, Bool.eq_iff_iff, List.any_eq_true, decide_eq_true_eq]
    constructor
    · rintro ⟨x, hx, z⟩
      have z : (Sum.inl (x : Int) : Key) = .inl (k : Int) := of_decide_eq_true z
      injection z with z
      have : x = k := by omega
      rwa [← this]
    · exact fun h => ⟨k, h, decide_eq_true rfl⟩
  rw [e1]
  by_cases h : k ∈ ps
  · rw [if_pos h, if_pos (decide_eq_true h), List.map_map]
    refine List.map_congr_left fun d _ => ?_
    show (if (Sum.inl (d : Int) : Key) = .inl (k : Int) then _ else _) = tK d
    split <;> rfl
  · rw [if_neg h, if_neg (by simp [h]), List.map_append]; rfl
theorem pu_keys (ds : NN) (k v : Nat) : (pu ds k v).map (·.1) = if k ∈ ds.map (·.1) then ds.map (·.1) else ds.map (·.1) ++ [k] := by
  unfold pu
  have e : ds.any (fun d => decide (d.1 = k)) = decide (k ∈ ds.map (·.1)) := by
    rw [Bool.eq_iff_iff, List.any_eq_true, decide_eq_true_eq, List.mem_map]
    exact ⟨fun ⟨x, h, z⟩ => ⟨x, h, of_decide_eq_true z⟩, fun ⟨x, h, z⟩ => ⟨x, h, decide_eq_true z⟩⟩
  rw [e]
  by_cases h : k ∈ ds.map (·.1)
  · rw [if_pos h, if_pos (decide_eq_true h), List.map_map]
    refine List.map_congr_left fun d _ => ?_
    show (if d.1 = k then (d.1, v) else d).1 = d.1
    split <;> rfl
  · rw [if_neg h, if_neg (by simpa using h), List.map_append]; rfl
theorem pu_len (ds : NN) (k v : Nat) : (pu ds k v).length ≤ ds.length + 1 := by
  unfold pu
  split
  · rw [List.length_map]; omega
  · rw [List.length_append]; exact Nat.le_refl _
theorem pu_len_in {ds : NN} {k v : Nat} (h : k ∈ ds.map (·.1)) : (pu ds k v).length = ds.length := by
  have := congrArg List.length (pu_keys ds k v)
  rw [if_pos h, List.length_map, List.length_map] at this
  exact this
theorem pu_nd {ds : NN} {k v : Nat} (h : (ds.map (·.1)).Nodup) : ((pu ds k v).map (·.1)).Nodup := by
  rw [pu_keys]
  split
  · exact h
  · rename_i hk
    refine List.nodup_append.mpr ⟨h, List.pairwise_singleton _ _, fun a ha b hb => ?_⟩
    rw [List.mem_singleton.mp hb]
    rintro rfl
    exact hk ha
theorem pu_mem {ds : NN} {k v : Nat} {x : Nat × Nat} (h : x ∈ pu ds k v) : x ∈ ds ∨ x = (k, v) := by
  unfold pu at h
  split at h
  · obtain ⟨d, hd, e⟩ := List.mem_map.mp h
    split at e
    · rename_i c
      exact .inr (by rw [← e, c])
    · exact .inl (by rw [← e]; exact hd)
  · rcases List.mem_append.mp h with h | h
    · exact .inl h
    · exact .inr (List.mem_singleton.mp h)
theorem dl_mem {ds : NN} {k : Nat} {x : Nat × Nat} (h : x ∈ dl ds k) : x ∈ ds := (List.mem_filter.mp h).1
theorem dl_nd {ds : NN} {k : Nat} (h : (ds.map (·.1)).Nodup) : ((dl ds k).map (·.1)).Nodup := h.sublist (List.filter_sublist.map _)
theorem look_mem {ds : NN} (h : (ds.map (·.1)).Nodup) {k v : Nat} : look ds k = some v ↔ (k, v) ∈ ds := by
  unfold look
  induction ds with
  | nil => simp
  | cons x r ih =>
    rw [List.map_cons, List.nodup_cons] at h
    rw [List.find?_cons]
    by_cases c : x.1 = k
    · rw [decide_eq_true c]
      show some x.2 = some v ↔ _
      rw [List.mem_cons]
      constructor
      · intro z
        injection z with z
        exact .inl (by rw [← c, ← z])
      · rintro (z | z)
        · rw [← z]
        · exact absurd (List.mem_map.mpr ⟨_, z, rfl⟩) (by rw [← c] at *; exact h.1)
    · rw [decide_eq_false c]
      show Option.map _ (r.find? _) = _ ↔ _
      rw [ih h.2, List.mem_cons]
      exact ⟨.inr, fun z => z.resolve_left fun e => c (by rw [← e])⟩
theorem look_none {ds : NN} {k : Nat} : look ds k = none ↔ k ∉ ds.map (·.1) := by
  unfold look
  rw [Option.map_eq_none_iff, List.find?_eq_none, List.mem_map]
  exact ⟨fun h ⟨x, hx, e⟩ => h x hx (decide_eq_true e), fun h x hx e => h ⟨x, hx, of_decide_eq_true e⟩⟩
theorem look_perm {cs ds : NN} (p : cs.Perm ds) (h : (cs.map (·.1)).Nodup) (k : Nat) : look cs k = look ds k := by
  have h2 : (ds.map (·.1)).Nodup := (p.map _).nodup_iff.mp h
  refine Option.ext fun v => ?_
  rw [look_mem h, look_mem h2, p.mem_iff]
theorem pu_perm {cs ds : NN} (p : cs.Perm ds) (k v : Nat) : (pu cs k v).Perm (pu ds k v) := by
  unfold pu
  have e : cs.any (fun d => decide (d.1 = k)) = ds.any (fun d => decide (d.1 = k)) := by
    rw [Bool.eq_iff_iff, List.any_eq_true, List.any_eq_true]
    exact ⟨fun ⟨x, h, z⟩ => ⟨x, p.mem_iff.mp h, z⟩, fun ⟨x, h, z⟩ => ⟨x, p.mem_iff.mpr h, z⟩⟩
  rw [e]
  split
  · exact p.map _
  · exact p.append_right _
theorem dl_perm {cs ds : NN} (p : cs.Perm ds) (k : Nat) : (dl cs k).Perm (dl ds k) := p.filter _
/-! ### the least free number -/
def IsFr (S : Nat → Prop) (n : Nat) : Prop := 1 ≤ n ∧ ¬ S n ∧ ∀ m, 1 ≤ m → m < n → S m
theorem IsFr.one {S T : Nat → Prop} {m n : Nat} (a : IsFr S m) (b : IsFr T n) (h : ∀ x, S x ↔ T x) : m = n := by
  rcases Nat.lt_trichotomy m n with c | c | c
  · exact absurd ((h m).mpr (b.2.2 m a.1 c)) a.2.1
  · exact c
  · exact absurd ((h n).mp (a.2.2 n b.1 c)) b.2.1
theorem nodup_sub_len {l S : List Nat} (h : l.Nodup) (hs : ∀ x ∈ l, x ∈ S) : l.length ≤ S.length := by
  induction l generalizing S with
  | nil => exact Nat.zero_le _
  | cons a r ih =>
    rw [List.nodup_cons] at h
    have ha := hs a (List.mem_cons_self ..)
    have := ih (S := S.erase a) h.2 fun x hx => (List.mem_erase_of_ne (fun z => h.1 (by rw [← z]; exact hx))).mpr (hs x (List.mem_cons_of_mem _ hx))
    rw [List.length_erase_of_mem ha] at this
    have : 0 < S.length := List.length_pos_of_mem ha
    show r.length + 1 ≤ _
    omega
/-- where all numbers below are among some, there are not more of them -/
theorem fill_len {S : List Nat} {n : Nat} (h : ∀ m, 1 ≤ m → m < n → m ∈ S) : n ≤ S.length + 1 := by
  have := nodup_sub_len (l := List.range' 1 (n - 1)) (S := S) List.nodup_range' fun x hx => by
    rw [List.mem_range'_1] at hx
    exact h x hx.1 (by omega)
  rw [List.length_range'] at this
  omega
theorem find_least {p : Nat → Bool} : ∀ (k s : Nat) {n : Nat}, (List.range' s k).find? p = some n → s ≤ n ∧ n < s + k ∧ p n = true ∧ ∀ m, s ≤ m → m < n → p m = false
  | 0, s, n, h => by simp at h
  | k + 1, s, n, h => by
    rw [List.range'_succ, List.find?_cons] at h
    cases e : p s with
    | true =>
      rw [e] at h
      cases h
      exact ⟨Nat.le_refl _, by omega, e, fun m h1 h2 => by omega⟩
    | false =>
      rw [e] at h
      obtain ⟨h1, h2, h3, h4⟩ := find_least k (s + 1) h
      refine ⟨by omega, by omega, h3, fun m a b => ?_⟩
      by_cases c : m = s
      · rw [c]; exact e
      · exact h4 m (by omega) b
theorem fr_is (S : List Nat) : IsFr (· ∈ S) (fr S) ∧ fr S ≤ S.length + 1 := by
  unfold fr
  cases h : (List.range' 1 (S.length + 1)).find? fun n => decide (n ∉ S) with
  | none =>
    rw [List.find?_eq_none] at h
    have := fill_len (S := S) (n := S.length + 2) fun m h1 h2 => by
      have := h m (by rw [List.mem_range'_1]; omega)
      simpa using this
    omega
  | some n =>
    obtain ⟨h1, h2, h3, h4⟩ := find_least _ _ h
    refine ⟨⟨h1, of_decide_eq_true h3, fun m a b => ?_⟩, by show n ≤ _; omega⟩
    have := h4 m a b
    simpa using this
theorem fr_eq {S : List Nat} {n : Nat} (h : IsFr (· ∈ S) n) : fr S = n := (fr_is S).1.one h fun _ => Iff.rfl
theorem fr_congr {S T : List Nat} (h : ∀ x, x ∈ S ↔ x ∈ T) : fr S = fr T := (fr_is S).1.one (fr_is T).1 h
/-- the first of those in a range that are not among some keys -/
theorem fr_head {S T : List Nat} (h : ∀ x, x ∈ S ↔ x ∈ T) (k : Nat) (hk : T.length ≤ k) : ∃ r, (List.range' 1 (k + 1)).filter (fun n => decide (n ∉ T)) = fr S :: r := by
  cases e : (List.range' 1 (k + 1)).filter fun n => decide (n ∉ T) with
  | nil =>
    exfalso
    rw [List.filter_eq_nil_iff] at e
    have := fill_len (S := T) (n := k + 2) fun m h1 h2 => by
      have := e m (by rw [List.mem_range'_1]; omega)
      simpa using this
    omega
  | cons a r =>
    refine ⟨r, ?_⟩
    have ef : (List.range' 1 (k + 1)).find? (fun n => decide (n ∉ T)) = some a := by
      rw [← List.head?_filter, e]
      rfl
    obtain ⟨h1, h2, h3, h4⟩ := find_least _ _ ef
    have : IsFr (· ∈ T) a := ⟨h1, of_decide_eq_true h3, fun m x y => by simpa using h4 m x y⟩
    rw [(fr_is S).1.one this h]
/-- numbers put one by one as keys -/
def tkOf (l : List Nat) : List Nat := l.foldl ad []
theorem tkOf_snoc (l : List Nat) (x : Nat) : tkOf (l ++ [x]) = ad (tkOf l) x := by unfold tkOf; rw [List.foldl_append]; rfl
theorem ad_mem {l : List Nat} {k x : Nat} : x ∈ ad l k ↔ x ∈ l ∨ x = k := by
  unfold ad
  split
  · exact ⟨.inl, fun h => h.elim id fun e => by rw [e]; assumption⟩
  · rw [List.mem_append, List.mem_singleton]
theorem ad_nd {l : List Nat} {k : Nat} (h : l.Nodup) : (ad l k).Nodup := by
  unfold ad
  split
  · exact h
  · rename_i hk
    refine List.nodup_append.mpr ⟨h, List.pairwise_singleton _ _, fun a ha b hb => ?_⟩
    rw [List.mem_singleton.mp hb]
    rintro rfl
    exact hk ha
theorem ad_len (l : List Nat) (k : Nat) : (ad l k).length ≤ l.length + 1 := by
  unfold ad
  split
  · omega
  · rw [List.length_append]; exact Nat.le_refl _
theorem fold_ad : ∀ (l acc : List Nat), (acc.Nodup → (l.foldl ad acc).Nodup) ∧ (l.foldl ad acc).length ≤ acc.length + l.length ∧ ∀ x, x ∈ l.foldl ad acc ↔ x ∈ acc ∨ x ∈ l
  | [], acc => ⟨id, Nat.le_refl _, fun x => by simp⟩
  | a :: l, acc => by
    obtain ⟨h1, h2, h3⟩ := fold_ad l (ad acc a)
    have := ad_len acc a
    refine ⟨fun n => h1 (ad_nd n), by show (l.foldl ad (ad acc a)).length ≤ acc.length + (l.length + 1); omega, fun x => ?_⟩
    show x ∈ l.foldl ad (ad acc a) ↔ _
    rw [h3, ad_mem, List.mem_cons]
    exact or_assoc
theorem tkOf_mem {l : List Nat} {x : Nat} : x ∈ tkOf l ↔ x ∈ l := by
  have := (fold_ad l []).2.2 x
  simpa [tkOf] using this
theorem tkOf_nd (l : List Nat) : (tkOf l).Nodup := (fold_ad l []).1 .nil
theorem tkOf_len (l : List Nat) : (tkOf l).length ≤ l.length := by
  have := (fold_ad l []).2.1
  simpa [tkOf] using this
theorem val_tK (ps : List Nat) (k : Nat) : valV (ps.map tK) (.inl (k : Int) : Key) = if k ∈ ps then some (.bl true) else none := by
  unfold valV
  rw [List.find?_map, Option.map_map]
  have : ((fun kv : Key × V => decide (kv.1 = .inl (k : Int))) ∘ tK) = fun n => decide (n = k) := by
    funext n
    show decide ((Sum.inl (n : Int) : Key) = .inl (k : Int)) = _
    rw [decide_eq_decide]
    exact ⟨fun z => by injection z with z; omega, fun z => by rw [z]⟩
  rw [this]
  by_cases h : k ∈ ps
  · rw [if_pos h]
    cases e : ps.find? fun n => decide (n = k) with
    | none =>
      rw [List.find?_eq_none] at e
      exact absurd (decide_eq_true rfl) (e k h)
    | some v => rfl
  · rw [if_neg h]
    cases e : ps.find? fun n => decide (n = k) with
    | none => rfl
    | some v => exact absurd (by rw [← of_decide_eq_true (p := v = k) (by have := List.find?_some e; exact this)]; exact List.mem_of_find?_eq_some e) h
/-! ### deeds on rows of cells in another order -/
theorem act_perm {d : Deed} {ns cs ds : NN} {us ws : List Nat} (p : cs.Perm ds) (nd : (cs.map (·.1)).Nodup) (hu : ∀ x, x ∈ us ↔ x ∈ ws) :
    (act d ns cs us = none ∧ act d ns ds ws = none) ∨ ∃ q ns1 c1 c2, act d ns cs us = some (q, ns1, c1) ∧ act d ns ds ws = some (q, ns1, c2) ∧ c1.Perm c2 := by
  have lk := look_perm p nd
  cases d with
  | copy a b => exact .inr ⟨_, _, _, _, rfl, rfl, p⟩
  | new a =>
    have e : fr (ns.map (·.2) ++ cs.map (·.2) ++ us) = fr (ns.map (·.2) ++ ds.map (·.2) ++ ws) := fr_congr fun x => by
      rw [List.mem_append, List.mem_append, List.mem_append, List.mem_append, hu, (p.map (·.2)).mem_iff]
    refine .inr ⟨_, _, _, _, rfl, ?_, pu_perm p _ _⟩
    show some (fr (ns.map (·.2) ++ ds.map (·.2) ++ ws), _, _) = _
    rw [← e]
    all_goals rfl
  | next a b =>
    have e1 : act (.next a b) ns cs us = ((look cs (pl ns b)).map fun v => (pl ns b, pu ns (hd a) v, cs)) := rfl
    have e2 : act (.next a b) ns ds ws = ((look ds (pl ns b)).map fun v => (pl ns b, pu ns (hd a) v, ds)) := rfl
    rw [e1, e2, lk]
    cases look ds (pl ns b) with
    | none => exact .inl ⟨rfl, rfl⟩
    | some v => exact .inr ⟨_, _, _, _, rfl, rfl, p⟩
  | tie a b =>
    have e1 : act (.tie a b) ns cs us = ((look cs (pl ns a)).map fun _ => (pl ns a, ns, pu cs (pl ns a) (pl ns b))) := rfl
    have e2 : act (.tie a b) ns ds ws = ((look ds (pl ns a)).map fun _ => (pl ns a, ns, pu ds (pl ns a) (pl ns b))) := rfl
    rw [e1, e2, lk]
    cases look ds (pl ns a) with
    | none => exact .inl ⟨rfl, rfl⟩
    | some v => exact .inr ⟨_, _, _, _, rfl, rfl, pu_perm p _ _⟩
  | drop a =>
    have e1 : act (.drop a) ns cs us = ((look cs (pl ns a)).map fun _ => (pl ns a, ns, dl cs (pl ns a))) := rfl
    have e2 : act (.drop a) ns ds ws = ((look ds (pl ns a)).map fun _ => (pl ns a, ns, dl ds (pl ns a))) := rfl
    rw [e1, e2, lk]
    cases look ds (pl ns a) with
    | none => exact .inl ⟨rfl, rfl⟩
    | some v => exact .inr ⟨_, _, _, _, rfl, rfl, dl_perm p _⟩
/-! ### bounds -/
def CB (m : Nat) (ds : NN) : Prop := ds.length ≤ m ∧ (∀ c ∈ ds, 1 ≤ c.1 ∧ c.1 ≤ 999 ∧ c.2 ≤ 999) ∧ (ds.map (·.1)).Nodup
def Deed.Known (ns : NN) (d : Deed) : Prop := match d with
  | .copy a b | .tie a b | .next a b => (look ns (hd a)).isSome = true ∧ (b = "END" ∨ (look ns (hd b)).isSome = true)
  | .new a | .drop a => (look ns (hd a)).isSome = true
theorem nm_pu {ns : NN} {k v : Nat} (h : NmOk ns) (hk : (look ns k).isSome = true) (hv : v ≤ 999) : NmOk (pu ns k v) := by
  have hk' : k ∈ ns.map (·.1) := by
    by_cases c : k ∈ ns.map (·.1)
    · exact c
    · rw [look_none.mpr c] at hk
      cases hk
  obtain ⟨h1, h2, h3, h4⟩ := h
  have len := pu_len_in (v := v) hk'
  refine ⟨by omega, by omega, fun n hn => ?_, ?_⟩
  · rcases pu_mem hn with hn | rfl
    · exact h3 n hn
    · obtain ⟨x, hx, e⟩ := List.mem_map.mp hk'
      have := h3 x hx
      rw [e] at this
      exact ⟨this.1, this.2.1, hv⟩
  · have := pu_keys ns k v
    rw [if_pos hk'] at this
    have h5 : (ns.map (·.1)).Pairwise (· < ·) := List.pairwise_map.mpr h4
    rw [← this] at h5
    exact List.pairwise_map.mp h5
theorem pl_le {ns : NN} (h : NmOk ns) (s : Str) : pl ns s ≤ 999 := by
  unfold pl
  split
  · omega
  · cases e : look ns (hd s) with
    | none => exact Nat.zero_le _
    | some v =>
      unfold look at e
      obtain ⟨x, hx, rfl⟩ := Option.map_eq_some_iff.mp e
      exact (h.2.2.1 x (List.mem_of_find?_eq_some hx)).2.2
theorem act_ok {d : Deed} {ns cs : NN} {us : List Nat} {m q : Nat} {n1 c1 : NN} (hn : NmOk ns) (hc : CB m cs) (kd : d.Known ns) (hf : ns.length + cs.length + us.length ≤ 990) (h : act d ns cs us = some (q, n1, c1)) : NmOk n1 ∧ CB (m + 1) c1 ∧ q ≤ 999 := by
  have len2 : (ns.map (·.2) ++ cs.map (·.2) ++ us).length = ns.length + cs.length + us.length := by simp only [List.length_append, List.length_map]
  have fle := (fr_is (ns.map (·.2) ++ cs.map (·.2) ++ us)).2
  have fone := (fr_is (ns.map (·.2) ++ cs.map (·.2) ++ us)).1.1
  rw [len2] at fle
  have up : CB (m + 1) cs := ⟨Nat.le_succ_of_le hc.1, hc.2⟩
  have lk : ∀ k v, look cs k = some v → 1 ≤ k ∧ k ≤ 999 ∧ v ≤ 999 := fun k v e => hc.2.1 (k, v) ((look_mem hc.2.2).mp e)
  have put : ∀ k v, 1 ≤ k → k ≤ 999 → v ≤ 999 → CB (m + 1) (pu cs k v) := fun k v a b c => ⟨Nat.le_trans (pu_len _ _ _) (by have := hc.1; omega), fun x hx => by
    rcases pu_mem hx with hx | rfl
    · exact hc.2.1 x hx
    · exact ⟨a, b, c⟩, pu_nd hc.2.2⟩
  cases d with
  | copy a b =>
    cases h
    exact ⟨nm_pu hn kd.1 (pl_le hn b), up, by omega⟩
  | new a =>
    cases h
    exact ⟨nm_pu hn kd (by omega), put _ _ fone (by omega) (by omega), by omega⟩
  | next a b =>
    obtain ⟨v, hv, e⟩ := Option.map_eq_some_iff.mp h
    cases e
    exact ⟨nm_pu hn kd.1 (lk _ _ hv).2.2, up, pl_le hn _⟩
  | tie a b =>
    obtain ⟨v, hv, e⟩ := Option.map_eq_some_iff.mp h
    cases e
    exact ⟨hn, put _ _ (lk _ _ hv).1 (lk _ _ hv).2.1 (pl_le hn b), pl_le hn _⟩
  | drop a =>
    obtain ⟨v, hv, e⟩ := Option.map_eq_some_iff.mp h
    cases e
    exact ⟨hn, ⟨Nat.le_succ_of_le (Nat.le_trans (List.length_filter_le _ _) hc.1), fun x hx => hc.2.1 x (dl_mem hx), dl_nd hc.2.2⟩, pl_le hn _⟩
end Dd

set_option Elab.async false
set_option linter.all false
set_option maxRecDepth 100000
set_option maxHeartbeats 4000000
namespace K39
open PySem PySem.Spec PyProof.Rows L2 Rd Dt Dq Pk Ln En Sx Sy So Sr Lk TL
open K39S (StA StB StM LSt HpA HpB spMade spTxt map_at kit_self sorted_names keys_n keys_c get_n get_d DcOk asc_nodup nuP nuP_step vN)
local macro_rules | `(tactic| walk_at "rd") => `(tactic| try simp only [↓De.tFor_str, ↓Lk.tLockE_, ↓Lk.tLock_, ↓Lk.tLc_keys, ↓Lk.tFor_keys, ↓Sy.tTupP_, ↓Sy.rTupP_, ↓Sy.rCatP_, ↓Sy.rSlP_, ↓Sy.rDictT_, ↓Sy.tDGet_, ↓Sy.tDGet1_, ↓Sy.tDIn_, ↓Sy.tDNotIn_, ↓Sy.tMeth_, ↓Sy.tMethKw_, ↓Sy.rSortedS_, ↓Sx.rIsT_, ↓En.tFor_enumT, ↓Sy.tFor_enumL, ↓Rv.tMakeKw_, ↓Prp.tProp_, ↓Lo.tBits_, ↓Lo.tJs_n, ↓Lo.tJs_c, ↓Lo.tFmt_, ↓Lo.gFld_, ↓Lo.tMake_, ↓Lo.rOwn_, ↓Rg.tFor_range3, ↓Rg.tLc_range3, ↓Rg.tLstC_, ↓Rg.tLc_rngV, ↓Le.rNeLE_, ↓Le.rEqLE_, ↓Ls.tLc_str, ↓Ls.sDPut_, ↓Rl.rReprL_, ↓Rl.tCallKS_, ↓Ob.tFld_, ↓Ob.sFld_, ↓tVar_, ↓tC_, ↓tM1, ↓tDNewK_, ↓tOp_, ↓tUn_, ↓rI_, ↓rI0_, ↓rU_, ↓eq_ii, ↓ne_ii, ↓eq_ss, ↓ne_ss, ↓eq_bb, ↓ne_bb, ↓tAndV_, ↓tOrV_, ↓tNotV_, ↓tIf_, ↓tTest_, ↓tB_, ↓tAnd_, ↓tOr_, ↓tNot_, ↓tChain_, ↓tNil_, ↓tCons_, ↓tTup_, ↓tLst_, ↓tCB_, ↓tCall_, ↓tSeq_, ↓tNext_, ↓tRet_, ↓tRetN_, ↓tDrop_, ↓tBreak_, ↓tNever_, ↓tIfS_, ↓tAsg_, ↓gName_, ↓gTup_, ↓gCons_, ↓gNil_, ↓gSub_, ↓tPar_, ↓tPar3_, ↓tSl_, ↓tNoPart_, ↓tPart_, ↓tBM_, ↓tFor_range1, ↓tFor_range2, ↓tFor_list, ↓tFor_tup, L2.start, List.headD_cons, List.headD_nil, List.tail_cons, List.map_cons, List.map_nil, List.length_cons, List.length_nil, List.replicate, List.append_nil, List.nil_append, List.cons_append, List.getElem?_cons_zero, List.getElem?_cons_succ, List.set_cons_zero, List.set_cons_succ, Option.some.injEq, V.int.injEq, V.bl.injEq, V.str.injEq, V.ref.injEq, exists_eq_left, exists_eq_left', exists_eq_right, exists_eq, exists_and_left, and_true, true_and, decide_eq_true_eq, Nat.reduceAdd, Nat.reduceSub, Nat.add_zero, Nat.zero_add, List.cons.injEq, Bool.not_eq_true', decide_eq_false_iff_not, eq_self, reduceCtorEq, Bool.false_eq_true, if_true, if_false, ite_true, ite_false, and_self, ↓tLc_range1, ↓tLc_range2, ↓tLc_list, ↓tLc_tup, ↓tYes_, wipe0, wipe1, ↓tCallS_, ↓rIxL_, ↓rIxT_, ↓rSlL_, ↓rCat_, ↓rSetL_, ↓rRep_, ↓rGcd_, ↓tCallK_, ↓gUnl_, ↓tRaise_, decide_true, decide_false, not_true_eq_false, not_false_eq_true, false_and, or_false, false_or, and_false, and_assoc, exists_const, forall_const, forall_eq'])
section
variable {P : Program} {w : World} {K : PySem.W.Frag} {mg : Str → Option Value} {base : Heap}
/-! ### tests on stores under way -/
structure Th (mg : Str → Option Value) : Prop where
  s : K39S.Tx mg
  b_all : mg "all" = none
  b_sorted : mg "sorted" = none
  b_isinstance : mg "isinstance" = none
  b_repr : mg "repr" = none
  b_list : mg "list" = none
  b_tuple : mg "tuple" = none
  b_str : mg "str" = none
  b_len : mg "len" = none
  b_range : mg "range" = none
  b_int : mg "int" = none
  b_dict : mg "dict" = none
  en : ∃ t, mg "END" = some (.int 0 t)
  mrc : ∃ t, mg "MOST_RUN_CELLS" = some (.int 100 t)
def KnL (ns : List (Nat × Nat)) (s : Str) : Prop := ∃ c, s = L1 c ∧ (look ns c).isSome = true
def KnW (ns : List (Nat × Nat)) (s : Str) : Prop := s = "END" ∨ KnL ns s
abbrev plc := Dd.pl
theorem L1_END (c : Nat) : L1 c ≠ "END" := fun z => by
  have := congrArg Str.length z
  have h1 : (L1 c).length = 1 := rfl
  rw [h1] at this
  exact absurd this (by decide)
theorem get_l {H : Hp} {d : Addr} {ns : List (Nat × Nat)} (h : H d = some (.dK (ns.map nk))) {s : Str} (k : KnL ns s) : DGet H d (.str s) (some (.int (plc ns s : Nat))) := by
  obtain ⟨c, rfl, hc⟩ := k
  have := DGet.k (k := Sum.inr (L1 c)) h
  rw [val_n] at this
  unfold plc Dd.pl
  rw [if_neg (L1_END c)]
  show DGet H d _ (some (.int ((look ns c).getD 0 : Nat)))
  cases e : look ns c with
  | none => rw [e] at hc; cases hc
  | some v =>
    rw [e] at this
    exact this
/-- a heap whose four dicts are told -/
def HpD (C : Addr) (H : Hp) (h d1 d2 d3 d4 : Addr) (ns cs us : List (Nat × Nat)) (ms : List Nat) : Prop := ∃ dx : Addr, H h = some (.ins C dx (K39S.hf d1 d2 d3 d4)) ∧ H d1 = some (.dK (ns.map nk)) ∧ H d2 = some (.dK (cs.map ck)) ∧ H d3 = some (.dK (us.map ck)) ∧ H d4 = some (.dK (ms.map Dd.tK)) ∧ [d1, d2, d3, d4].Nodup
theorem HpD.up {C : Addr} {H H' : Hp} (s : Same H H') {h d1 d2 d3 d4 : Addr} {ns cs us : List (Nat × Nat)} {ms : List Nat} (g : HpD C H h d1 d2 d3 d4 ns cs us ms) : HpD C H' h d1 d2 d3 d4 ns cs us ms := by
  obtain ⟨dx, h1, h2, h3, h4, h5, h6⟩ := g
  exact ⟨dx, s _ _ h1, s _ _ h2, s _ _ h3, s _ _ h4, s _ _ h5, h6⟩
theorem HpD.fa {C : Addr} (W : HpB K C) {H : Hp} {h dx d1 d2 d3 d4 : Addr} (e : H h = some (.ins C dx (K39S.hf d1 d2 d3 d4))) :
    Ob.FA K H h "names" (.ref d1) ∧ Ob.FA K H h "cells" (.ref d2) ∧ Ob.FA K H h "used" (.ref d3) ∧ Ob.FA K H h "made" (.ref d4) :=
  ⟨⟨C, dx, _, e, W.cl, W.nN, rfl⟩, ⟨C, dx, _, e, W.cl, W.nC, rfl⟩, ⟨C, dx, _, e, W.cl, W.nU, rfl⟩, ⟨C, dx, _, e, W.cl, W.nM, rfl⟩⟩
def spPO (C : Addr) : Sp := fun vs H Q _ => ∃ (h d1 d2 d3 d4 : Addr) (ns cs us : List (Nat × Nat)) (ms : List Nat) (s : Str), vs = [.ref h, .str s] ∧ HpD C H h d1 d2 d3 d4 ns cs us ms ∧ KnW ns s ∧ Q (.int (plc ns s : Nat)) H
theorem sc_po : FnScope ["self", "word"] ["self", "word"] (defScope (inClass (top 28) 1)) := ⟨rfl, rfl, rfl, by decide +kernel, rfl, by decide +kernel, by decide +kernel⟩
theorem ok_po {f C : Addr} {fd : FuncData} {q : Str} (T : Th mg) (W : HpB K C) (F : K39S.FM K "place_of" q (inClass (top 28) 1) f fd) : FnOk P w K mg base CX0 1 f fd ["self", "word"] (spPO C) := by
  refine F.ok sc_po (fun vs H Q E h => ?_) (fun cdv A outer s H vs Q E hr h => ?_)
  · obtain ⟨_, _, _, _, _, _, _, _, _, _, rfl, _⟩ := h
    rfl
  · obtain ⟨h, d1, d2, d3, d4, ns, cs, us, ms, s, rfl, hp, kw, k⟩ := h
    have nd := sc_po.nd
    obtain ⟨tE, hEND⟩ := T.en
    obtain ⟨dx, h1, h2, h3, h4, h5, h6⟩ := id hp
    refine ⟨_, (pss_one (ps_ret (pe_ifExp (pt_cmpR op_eq (pv 1) pe_str (nomark _)) (pe_glob (v := .int 0) rfl hEND ⟨_, rfl⟩) (pe_dget (hu_of hr) (Ob.pe_fldK (K := K) rfl (pv 0) rfl) (pv 1) (fun _ _ => rfl))))), ?_⟩
    walk_at "rd"
    obtain ⟨fn, fc, fu, fm⟩ := HpD.fa W h1
    by_cases e : s = Str.ofString "END"
    · rw [if_pos e]
      have : plc ns s = 0 := if_pos e
      rw [this] at k
      exact k
    · rw [if_neg e]
      exact ⟨_, fn, d1, rfl, _, get_l h2 (kw.resolve_left e), k⟩

/-! ### the least free place -/
def spFP (C : Addr) : Sp := fun vs H Q _ => ∃ (h d1 d2 d3 d4 : Addr) (ns cs us : List (Nat × Nat)) (ms : List Nat), vs = [.ref h] ∧ HpD C H h d1 d2 d3 d4 ns cs us ms ∧ ns.length + cs.length + us.length ≤ 990 ∧ ∀ H', Same H H' → Q (.int (Dd.fr (ns.map (·.2) ++ cs.map (·.2) ++ us.map (·.1)) : Nat)) H'
def fpP (H4 : Hp) (h T : Addr) (L : List Nat) (i : Nat) : L2.St → Hp → Prop := fun σ H' => But T H4 H' ∧ H' T = some (.dK ((Dd.tkOf (L.take i)).map Dd.tK)) ∧ ∃ y, σ = [some (.ref h), some (.ref T), y]
theorem sc_fp : FnScope ["self", "taken", "place"] ["self"] (defScope (inClass (top 28) 2)) := ⟨rfl, rfl, rfl, by decide +kernel, rfl, by decide +kernel, by decide +kernel⟩
theorem ok_fp {f C : Addr} {fd : FuncData} {q : Str} (T : Th mg) (W : HpB K C) (F : K39S.FM K "fresh_place" q (inClass (top 28) 2) f fd) : FnOk P w K mg base CX0 2 f fd ["self"] (spFP C) := by
  refine F.ok sc_fp (fun vs H Q E h => ?_) (fun cdv A outer s H vs Q E hr h => ?_)
  · obtain ⟨_, _, _, _, _, _, _, _, _, rfl, _⟩ := h
    rfl
  · obtain ⟨h, d1, d2, d3, d4, ns, cs, us, ms, rfl, hp, hl, k⟩ := h
    have nd := sc_fp.nd
    obtain ⟨dx, h1, h2, h3, h4, h5, h6⟩ := id hp
    refine ⟨_, (pss_cons (ps_set (i := 1) nd rfl (Or.inl rfl) pe_dnewK)
        (pss_cons (ps_for (passes_of rfl) rfl (pi_list (pe_op op_cat (Si.pe_weak (t' := Si.tLV _) (pe_callTy (Si.cr_listD rfl) (by rfl) T.b_list (by decide +kernel) (pa_cons (pe_bm0 PySem.F.plainAttrs_dict PySem.F.slot_dict_values PySem.F.type_dict_values Si.mt_valsK (Ob.pe_fldK (K := K) rfl (pv 0) rfl)) pa_nil)) (fun σ H Q h => Si.lv_ok Si.mono_fld h)) (Si.pe_weak (t' := Si.tLV _) (pe_callTy (Si.cr_listD rfl) (by rfl) T.b_list (by decide +kernel) (pa_cons (pe_bm0 PySem.F.plainAttrs_dict PySem.F.slot_dict_values PySem.F.type_dict_values Si.mt_valsK (Ob.pe_fldK (K := K) rfl (pv 0) rfl)) pa_nil)) (fun σ H Q h => Si.lv_ok Si.mono_fld h)))) (pg_name (i := 2) nd rfl (Or.inl rfl)) (pss_one (ps_dput (hu_of hr) (pv 1) (pv 2) pe_bl rfl)))
        (pss_cons (ps_set (i := 2) nd rfl (Or.inl rfl) pe_int)
        (pss_cons (ps_while (passes_of rfl) (PW.pt (pw_or (pt_cmp (pc_din (hu_of hr) (pv 2) (Ob.pe_fldK (K := K) rfl (pv 0) rfl))) (pw_or1 (pt_cmp (pc_din (hu_of hr) (pv 2) (pv 1)))))) (pss_one (ps_set (i := 2) nd rfl (Or.inl rfl) (pe_op op_add (pv 2) pe_int))))
        (pss_one (ps_ret (pv 2))))))), ?_⟩
    refine sq fun U hU => ?_
    walk_at "rd"
    refine fun T hT => hU _ _ ?_
    clear hU
    have s1 : Same H (upd H T (.dK [])) := same_new hT
    have f1 : upd H T (.dK []) T = some (.dK []) := upd_same
    generalize upd H T (.dK []) = H1 at s1 f1 ⊢
    obtain ⟨fn, fc, fu, fm⟩ := HpD.fa W (s1 _ _ h1)
    refine sq fun U hU => ?_
    walk_at "rd"
    simp only [Si.tLV]
    walk_at "rd"
    refine ⟨_, fn, d1, rfl, _, s1 _ _ h2, by rw [List.length_map]; omega, fun H2 l1 s2 n1 e1 => ?_⟩
    obtain ⟨_, fc2, _, _⟩ := HpD.fa W (s2 _ _ (s1 _ _ h1))
    refine ⟨_, fc2, d2, rfl, _, s2 _ _ (s1 _ _ h3), by rw [List.length_map]; omega, fun H3 l2 s3 n2 e2 => ?_⟩
    have v1 : (ns.map nk).map (fun x => x.2) = (ns.map (·.2)).map vN := by rw [List.map_map, List.map_map]; rfl
    have v2 : (cs.map ck).map (fun x => x.2) = (cs.map (·.2)).map vN := by rw [List.map_map, List.map_map]; rfl
    rw [v1] at e1
    rw [v2] at e2
    have zl : (1000000 : Nat) ≤ sizeLine := line_big
    refine ⟨_, s3 _ _ e1, _, e2, by rw [List.length_map, List.length_map, List.length_map, List.length_map]; omega, fun p hp => ?_⟩
    rw [← List.map_append]
    have s4 : Same H1 (upd H3 p (.lst ((ns.map (·.2) ++ cs.map (·.2)).map vN))) := (s2.trans s3).trans (same_new hp)
    have e4 : upd H3 p (.lst ((ns.map (·.2) ++ cs.map (·.2)).map vN)) p = some (.lst ((ns.map (·.2) ++ cs.map (·.2)).map vN)) := upd_same
    have nT : p ≠ T := fun z => by rw [z, s3 _ _ (s2 _ _ f1)] at hp; cases hp
    have lL : (ns.map (·.2) ++ cs.map (·.2)).length = ns.length + cs.length := by rw [List.length_append, List.length_map, List.length_map]
    have eS : ∀ x, x ∈ ns.map (·.2) ++ cs.map (·.2) ++ us.map (·.1) ↔ x ∈ us.map (·.1) ∨ x ∈ Dd.tkOf (ns.map (·.2) ++ cs.map (·.2)) := fun x => by rw [Dd.tkOf_mem, List.mem_append (s := ns.map (·.2) ++ cs.map (·.2)), or_comm]
    generalize upd H3 p (.lst ((ns.map (·.2) ++ cs.map (·.2)).map vN)) = H4 at s4 e4 ⊢
    generalize ns.map (·.2) ++ cs.map (·.2) = L at e4 lL eS k ⊢
    clear e1 e2 n1 n2 s2 s3 hp fc2
    refine ⟨⟨_, SqL.of e4⟩, for_l (K := K) (a := p) (xs := L.map vN) (fpP H4 h T L) ⟨fun _ _ _ e => e, by rw [s4 _ _ f1]; rfl, _, rfl⟩ (fun i σ H' _ h => SqL.of (h.1 _ _ nT e4)) ?_ ?_⟩
    · rintro i y σ H' hi ⟨b, ht, z, rfl⟩
      obtain ⟨x, hx, rfl⟩ := map_at hi
      walk_at "rd"
      have et : L.take (i + 1) = L.take i ++ [x] := by rw [List.take_succ, hx]; rfl
      have pt : DPut H' T (vN x) (.bl true) (upd H' T (.dK (putK ((Dd.tkOf (L.take i)).map Dd.tK) (.inl (x : Int)) (.bl true)))) := DPut.k (k := .inl (x : Int)) ht (by
        have := Dd.tkOf_len (L.take i)
        have := List.length_take_le' i L
        rw [List.length_map]
        omega)
      refine ⟨_, pt, fun c o n e => by rw [upd_ne n]; exact b _ _ n e, by rw [upd_same, Dd.ad_tK, et, Dd.tkOf_snoc], _, rfl⟩
    · rintro σ H' ⟨b, ht, z, rfl⟩
      rw [List.length_map, List.take_length] at ht
      refine hU _ _ ?_
      clear hU
      have ht2 : H' T = some (.dK ((Dd.tkOf L).map Dd.tK)) := ht
      have hd3 : H' d3 = some (.dK (us.map ck)) := b _ _ (fun z => by rw [z] at h4; rw [h4] at hT; cases hT) (s4 _ _ (s1 _ _ h4))
      have hh : H' h = some (.ins C dx (K39S.hf d1 d2 d3 d4)) := b _ _ (fun z => by rw [z] at h1; rw [h1] at hT; cases hT) (s4 _ _ (s1 _ _ h1))
      have sH : Same H H' := fun c o e => b _ _ (fun z => by rw [z, hT] at e; cases e) (s4 _ _ (s1 _ _ e))
      obtain ⟨_, _, fu2, _⟩ := HpD.fa W hh
      have fE := k
      refine sq fun U hU => ?_
      walk_at "rd"
      refine hU _ _ ?_
      clear hU
      refine sq fun U hU => ?_
      refine ⟨fun m σ H2 => H2 = H' ∧ ∃ p : Nat, 1 ≤ p ∧ m + p = L.length + us.length + 2 ∧ (∀ x, 1 ≤ x → x < p → x ∈ us.map (·.1) ∨ x ∈ Dd.tkOf L) ∧ σ = [some (.ref h), some (.ref T), some (.int (p : Nat))], ⟨_, rfl, 1, Nat.le_refl _, Nat.sub_add_cancel (by omega), fun x a b => by omega, rfl⟩, ?_⟩
      rintro m σ H2 ⟨rfl, p, p1, pm, pl, rfl⟩
      walk_at "rd"
      have gU : DGet H2 d3 (.int (p : Nat)) ((look us p).map fun v : Nat => V.int v) := by
        have := DGet.k (k := (.inl ((p : Nat) : Int))) hd3
        rw [val_c, if_pos (by omega), Int.toNat_natCast] at this
        exact this
      have gT : DGet H2 T (.int (p : Nat)) (if p ∈ Dd.tkOf L then some (.bl true) else none) := by
        have := DGet.k (k := (.inl ((p : Nat) : Int))) ht2
        rw [Dd.val_tK] at this
        exact this
      have uS : (look us p).isSome = true ↔ p ∈ us.map (·.1) := by
        cases e : look us p with
        | none => exact ⟨fun z => (by cases z), fun z => absurd z (Dd.look_none.mp e)⟩
        | some v => exact ⟨fun _ => Decidable.byContradiction fun z => (by rw [Dd.look_none.mpr z] at e; cases e), fun _ => rfl⟩
      have go : (p ∈ us.map (·.1) ∨ p ∈ Dd.tkOf L) → ∃ N : L2.St → Hp → Prop, (∀ (σ' : L2.St) (H' : Hp), N σ' H' → ∃ m', m' < m ∧ H' = H2 ∧ ∃ p : Nat, 1 ≤ p ∧ m' + p = L.length + us.length + 2 ∧ (∀ x, 1 ≤ x → x < p → x ∈ us.map (·.1) ∨ x ∈ Dd.tkOf L) ∧ σ' = [some (.ref h), some (.ref T), some (.int (p : Nat))]) ∧
          N [some (.ref h), some (.ref T), some (.int ((p : Nat) + 1))] H2 := fun hin => by
        have all : ∀ x, 1 ≤ x → x < p + 1 → x ∈ us.map (·.1) ∨ x ∈ Dd.tkOf L := fun x a b => by
          by_cases e : x = p
          · rw [e]; exact hin
          · exact pl x a (by omega)
        have fl := Dd.fill_len (S := us.map (·.1) ++ Dd.tkOf L) (n := p + 1) fun x a b => List.mem_append.mpr (all x a b)
        have tl := Dd.tkOf_len L
        rw [List.length_append, List.length_map] at fl
        refine ⟨fun σ' H' => H' = H2 ∧ σ' = [some (.ref h), some (.ref T), some (.int ((p : Nat) + 1))], ?_, rfl, rfl⟩
        rintro σ' H' ⟨rfl, rfl⟩
        exact ⟨m - 1, by omega, rfl, p + 1, by omega, by omega, all, by rw [Int.natCast_add]; rfl⟩
      refine ⟨_, fu2, d3, rfl, _, gU, ?_⟩
      by_cases c1 : p ∈ us.map (·.1)
      · rw [if_pos (by rw [Option.isSome_map]; exact uS.mpr c1)]
        exact go (.inl c1)
      · rw [if_neg (by rw [Option.isSome_map]; exact fun z => c1 (uS.mp z))]
        refine ⟨_, gT, ?_⟩
        by_cases c2 : p ∈ Dd.tkOf L
        · rw [if_pos c2]
          exact go (.inr c2)
        · rw [if_neg c2]
          refine hU _ _ ?_
          clear hU
          walk_at "rd"
          have fr : Dd.fr (L ++ us.map (·.1)) = p := Dd.fr_eq ⟨p1, fun z => ((eS p).mp z).elim c1 c2, fun x a b => (eS x).mpr (pl x a b)⟩
          rw [fr] at fE
          exact fE _ sH
end
end K39

set_option Elab.async false
set_option linter.all false
set_option maxRecDepth 100000
set_option maxHeartbeats 4000000
namespace K39
open PySem PySem.Spec PyProof.Rows L2 Rd Dt Dq Pk Ln En Sx Sy So Sr Lk TL
open K39S (StA StB StM LSt HpA HpB spMade spTxt map_at kit_self sorted_names keys_n keys_c get_n get_d DcOk asc_nodup nuP nuP_step vN)
local macro_rules | `(tactic| walk_at "rd") => `(tactic| try simp only [↓De.tFor_str, ↓Lk.tLockE_, ↓Lk.tLock_, ↓Lk.tLc_keys, ↓Lk.tFor_keys, ↓Sy.tTupP_, ↓Sy.rTupP_, ↓Sy.rCatP_, ↓Sy.rSlP_, ↓Sy.rDictT_, ↓Sy.tDGet_, ↓Sy.tDGet1_, ↓Sy.tDIn_, ↓Sy.tDNotIn_, ↓Sy.tMeth_, ↓Sy.tMethKw_, ↓Sy.rSortedS_, ↓Sx.rIsT_, ↓En.tFor_enumT, ↓Sy.tFor_enumL, ↓Rv.tMakeKw_, ↓Prp.tProp_, ↓Lo.tBits_, ↓Lo.tJs_n, ↓Lo.tJs_c, ↓Lo.tFmt_, ↓Lo.gFld_, ↓Lo.tMake_, ↓Lo.rOwn_, ↓Rg.tFor_range3, ↓Rg.tLc_range3, ↓Rg.tLstC_, ↓Rg.tLc_rngV, ↓Le.rNeLE_, ↓Le.rEqLE_, ↓Ls.tLc_str, ↓Ls.sDPut_, ↓Rl.rReprL_, ↓Rl.tCallKS_, ↓Ob.tFld_, ↓Ob.sFld_, ↓tVar_, ↓tC_, ↓tM1, ↓tDNewK_, ↓tOp_, ↓tUn_, ↓rI_, ↓rI0_, ↓rU_, ↓eq_ii, ↓ne_ii, ↓eq_ss, ↓ne_ss, ↓eq_bb, ↓ne_bb, ↓tAndV_, ↓tOrV_, ↓tNotV_, ↓tIf_, ↓tTest_, ↓tB_, ↓tAnd_, ↓tOr_, ↓tNot_, ↓tChain_, ↓tNil_, ↓tCons_, ↓tTup_, ↓tLst_, ↓tCB_, ↓tCall_, ↓tSeq_, ↓tNext_, ↓tRet_, ↓tRetN_, ↓tDrop_, ↓tBreak_, ↓tNever_, ↓tIfS_, ↓tAsg_, ↓gName_, ↓gTup_, ↓gCons_, ↓gNil_, ↓gSub_, ↓tPar_, ↓tPar3_, ↓tSl_, ↓tNoPart_, ↓tPart_, ↓tBM_, ↓tFor_range1, ↓tFor_range2, ↓tFor_list, ↓tFor_tup, L2.start, List.headD_cons, List.headD_nil, List.tail_cons, List.map_cons, List.map_nil, List.length_cons, List.length_nil, List.replicate, List.append_nil, List.nil_append, List.cons_append, List.getElem?_cons_zero, List.getElem?_cons_succ, List.set_cons_zero, List.set_cons_succ, Option.some.injEq, V.int.injEq, V.bl.injEq, V.str.injEq, V.ref.injEq, exists_eq_left, exists_eq_left', exists_eq_right, exists_eq, exists_and_left, and_true, true_and, decide_eq_true_eq, Nat.reduceAdd, Nat.reduceSub, Nat.add_zero, Nat.zero_add, List.cons.injEq, Bool.not_eq_true', decide_eq_false_iff_not, eq_self, reduceCtorEq, Bool.false_eq_true, if_true, if_false, ite_true, ite_false, and_self, ↓tLc_range1, ↓tLc_range2, ↓tLc_list, ↓tLc_tup, ↓tYes_, wipe0, wipe1, ↓tCallS_, ↓rIxL_, ↓rIxT_, ↓rSlL_, ↓rCat_, ↓rSetL_, ↓rRep_, ↓rGcd_, ↓tCallK_, ↓gUnl_, ↓tRaise_, decide_true, decide_false, not_true_eq_false, not_false_eq_true, false_and, or_false, false_or, and_false, and_assoc, exists_const, forall_const, forall_eq'])
section
variable {P : Program} {w : World} {K : PySem.W.Frag} {mg : Str → Option Value} {base : Heap}
/-! ### a deed on a heap -/
def DeedK (ns : List (Nat × Nat)) : Dd.Deed → Prop
  | .copy a b => KnL ns a ∧ KnW ns b
  | .tie a b => KnL ns a ∧ KnW ns b
  | .next a b => KnL ns a ∧ KnL ns b
  | .new a => KnL ns a
  | .drop a => KnL ns a
def usD (us : List (Nat × Nat)) (p : Nat) : Dd.Deed → List (Nat × Nat)
  | .new _ => Dd.pu us p 0
  | _ => us
def msD (ms : List Nat) (p : Nat) : Dd.Deed → List Nat
  | .new _ => Dd.ad ms p
  | _ => ms
def spDn (C : Addr) : Sp := fun vs H Q _ => ∃ (h d1 d2 d3 d4 b : Addr) (ns cs us : List (Nat × Nat)) (ms : List Nat) (d : Dd.Deed), vs = [.ref h, .ref b] ∧ H b = some (.tup (d.row.map V.str)) ∧ HpD C H h d1 d2 d3 d4 ns cs us ms ∧ DeedK ns d ∧ ns.length + cs.length + us.length ≤ 990 ∧ ms.length ≤ 1000 ∧
  (Dd.act d ns cs (us.map (·.1)) = none → Q .non H) ∧
  (∀ p n1 c1, Dd.act d ns cs (us.map (·.1)) = some (p, n1, c1) → ∀ H', HpD C H' h d1 d2 d3 d4 n1 c1 (usD us p d) (msD ms p d) → (∀ b o, b ≠ d1 → b ≠ d2 → b ≠ d3 → b ≠ d4 → H b = some o → H' b = some o) → Q (.int (p : Nat)) H')
theorem HpD.ne {C : Addr} {H : Hp} {h d1 d2 d3 d4 : Addr} {ns cs us : List (Nat × Nat)} {ms : List Nat} (g : HpD C H h d1 d2 d3 d4 ns cs us ms) : h ≠ d1 ∧ h ≠ d2 ∧ h ≠ d3 ∧ h ≠ d4 ∧ d1 ≠ d2 ∧ d1 ≠ d3 ∧ d1 ≠ d4 ∧ d2 ≠ d3 ∧ d2 ≠ d4 ∧ d3 ≠ d4 := by
  obtain ⟨dx, h1, h2, h3, h4, h5, h6⟩ := g
  simp only [List.nodup_cons, List.mem_cons, List.not_mem_nil, or_false, not_or, List.nodup_nil, and_true, not_false_eq_true] at h6
  refine ⟨fun z => ?_, fun z => ?_, fun z => ?_, fun z => ?_, h6.1.1, h6.1.2.1, h6.1.2.2, h6.2.1.1, h6.2.1.2, h6.2.2⟩
  · rw [z, h2] at h1; cases h1
  · rw [z, h3] at h1; cases h1
  · rw [z, h4] at h1; cases h1
  · rw [z, h5] at h1; cases h1
section
variable {C : Addr} {H : Hp} {h d1 d2 d3 d4 : Addr} {ns cs us : List (Nat × Nat)} {ms : List Nat} (g : HpD C H h d1 d2 d3 d4 ns cs us ms)
include g
theorem put_n {a : Str} (ka : ∃ c, a = L1 c) (hl : ns.length ≤ 1000) (v : Nat) : DPut H d1 (.str a) (.int v) (upd H d1 (.dK ((Dd.pu ns (Dd.hd a) v).map nk))) ∧ HpD C (upd H d1 (.dK ((Dd.pu ns (Dd.hd a) v).map nk))) h d1 d2 d3 d4 (Dd.pu ns (Dd.hd a) v) cs us ms := by
  obtain ⟨e1, e2, e3, e4, e5, e6, e7, e8, e9, e10⟩ := g.ne
  obtain ⟨dx, h1, h2, h3, h4, h5, h6⟩ := g
  obtain ⟨c, rfl⟩ := ka
  have zl : (1000000 : Nat) ≤ sizeLine := line_big
  have e : Dd.hd (L1 c) = c := rfl
  rw [e, ← Dd.pu_nk]
  refine ⟨DPut.k (k := .inr (L1 c)) h2 (by rw [List.length_map]; omega), dx, by rw [upd_ne e1]; exact h1, by rw [upd_same, Dd.pu_nk], by rw [upd_ne e5.symm]; exact h3, by rw [upd_ne e6.symm]; exact h4, by rw [upd_ne e7.symm]; exact h5, h6⟩
theorem put_c (hl : cs.length ≤ 1000) (k v : Nat) : DPut H d2 (.int k) (.int v) (upd H d2 (.dK ((Dd.pu cs k v).map ck))) ∧ HpD C (upd H d2 (.dK ((Dd.pu cs k v).map ck))) h d1 d2 d3 d4 ns (Dd.pu cs k v) us ms := by
  obtain ⟨e1, e2, e3, e4, e5, e6, e7, e8, e9, e10⟩ := g.ne
  obtain ⟨dx, h1, h2, h3, h4, h5, h6⟩ := g
  have zl : (1000000 : Nat) ≤ sizeLine := line_big
  rw [← Dd.pu_ck]
  refine ⟨DPut.k (k := .inl (k : Int)) h3 (by rw [List.length_map]; omega), dx, by rw [upd_ne e2]; exact h1, by rw [upd_ne e5]; exact h2, by rw [upd_same, Dd.pu_ck], by rw [upd_ne e8.symm]; exact h4, by rw [upd_ne e9.symm]; exact h5, h6⟩
theorem put_u (hl : us.length ≤ 1000) (k v : Nat) : DPut H d3 (.int k) (.int v) (upd H d3 (.dK ((Dd.pu us k v).map ck))) ∧ HpD C (upd H d3 (.dK ((Dd.pu us k v).map ck))) h d1 d2 d3 d4 ns cs (Dd.pu us k v) ms := by
  obtain ⟨e1, e2, e3, e4, e5, e6, e7, e8, e9, e10⟩ := g.ne
  obtain ⟨dx, h1, h2, h3, h4, h5, h6⟩ := g
  have zl : (1000000 : Nat) ≤ sizeLine := line_big
  rw [← Dd.pu_ck]
  refine ⟨DPut.k (k := .inl (k : Int)) h4 (by rw [List.length_map]; omega), dx, by rw [upd_ne e3]; exact h1, by rw [upd_ne e6]; exact h2, by rw [upd_ne e8]; exact h3, by rw [upd_same, Dd.pu_ck], by rw [upd_ne e10.symm]; exact h5, h6⟩
theorem put_m (hl : ms.length ≤ 1000) (k : Nat) : DPut H d4 (.int k) (.bl true) (upd H d4 (.dK ((Dd.ad ms k).map Dd.tK))) ∧ HpD C (upd H d4 (.dK ((Dd.ad ms k).map Dd.tK))) h d1 d2 d3 d4 ns cs us (Dd.ad ms k) := by
  obtain ⟨e1, e2, e3, e4, e5, e6, e7, e8, e9, e10⟩ := g.ne
  obtain ⟨dx, h1, h2, h3, h4, h5, h6⟩ := g
  have zl : (1000000 : Nat) ≤ sizeLine := line_big
  rw [← Dd.ad_tK]
  refine ⟨DPut.k (k := .inl (k : Int)) h5 (by rw [List.length_map]; omega), dx, by rw [upd_ne e4]; exact h1, by rw [upd_ne e7]; exact h2, by rw [upd_ne e9]; exact h3, by rw [upd_ne e10]; exact h4, by rw [upd_same, Dd.ad_tK], h6⟩
theorem drop_c (k : Nat) : HpD C (upd H d2 (.dK ((Dd.dl cs k).map ck))) h d1 d2 d3 d4 ns (Dd.dl cs k) us ms := by
  obtain ⟨e1, e2, e3, e4, e5, e6, e7, e8, e9, e10⟩ := g.ne
  obtain ⟨dx, h1, h2, h3, h4, h5, h6⟩ := g
  exact ⟨dx, by rw [upd_ne e2]; exact h1, by rw [upd_ne e5]; exact h2, upd_same, by rw [upd_ne e8.symm]; exact h4, by rw [upd_ne e9.symm]; exact h5, h6⟩
theorem get_c (k : Nat) : DGet H d2 (.int k) ((look cs k).map fun v : Nat => V.int v) := by
  obtain ⟨dx, h1, h2, h3, h4, h5, h6⟩ := g
  have := DGet.k (k := (.inl ((k : Nat) : Int))) h3
  rw [val_c, if_pos (by omega), Int.toNat_natCast] at this
  exact this
end
theorem kn_pl {ns : List (Nat × Nat)} {s : Str} (k : KnL ns s) : look ns (Dd.hd s) = some (plc ns s) := by
  obtain ⟨c, rfl, hc⟩ := k
  unfold plc Dd.pl
  rw [if_neg (L1_END c)]
  cases e : look ns (Dd.hd (L1 c)) with
  | none => rw [show Dd.hd (L1 c) = c from rfl] at e; rw [e] at hc; cases hc
  | some v => rfl
structure HpM (P : Program) (w : World) (K : PySem.W.Frag) (mg : Str → Option Value) (base : Heap) (C f1 f2 : Addr) (fd1 fd2 : FuncData) : Prop where
  pof : K39S.MtC P w K mg base C "place_of" 1 ["self", "word"] ["word"] (spPO C) f1 fd1
  fp : K39S.MtC P w K mg base C "fresh_place" 2 ["self"] [] (spFP C) f2 fd2
theorem sc_dn : FnScope ["self", "deed", "kind", "letter", "place"] ["self", "deed"] (defScope (inClass (top 28) 3)) := ⟨rfl, rfl, rfl, by decide +kernel, rfl, by decide +kernel, by decide +kernel⟩
theorem ok_dn {f C : Addr} {fd : FuncData} {q : Str} (T : Th mg) (W : HpB K C) {g1 g2 : Addr} {fd1 fd2 : FuncData} (M : HpM P w K mg base C g1 g2 fd1 fd2) (F : K39S.FM K "done" q (inClass (top 28) 3) f fd) : FnOk P w K mg base CX0 3 f fd ["self", "deed"] (spDn C) := by
  refine F.ok sc_dn (fun vs H Q E h => ?_) (fun cdv A outer s H vs Q E hr h => ?_)
  · obtain ⟨_, _, _, _, _, _, _, _, _, _, _, rfl, _⟩ := h
    rfl
  · obtain ⟨h, d1, d2, d3, d4, b, ns, cs, us, ms, d, rfl, hb, hp, kd, hl, hml, k0, k1⟩ := h
    have nd := sc_dn.nd
    obtain ⟨tE, hEND⟩ := T.en
    obtain ⟨dx, h1, h2, h3, h4, h5, h6⟩ := id hp
    obtain ⟨fn, fc, fu, fm⟩ := HpD.fa W h1
    refine ⟨_, (pss_cons (ps_par rfl nd (i := 2) (j := 3) rfl rfl (by decide) rfl rfl (pa_cons (pe_ix (r := rIxT K) ix_tup (pv 1) pe_int (fun _ _ => rfl)) (pa_cons (pe_ix (r := rIxT K) ix_tup (pv 1) pe_int (fun _ _ => rfl)) pa_nil)) rfl)
        (pss_cons (ps_if (pt_cmpR op_eq (pv 2) pe_str (nomark _)) (pss_cons (ps_dput (hu_of hr) (Ob.pe_fldK (K := K) rfl (pv 0) rfl) (pv 3) (pe_meth (pv 0) W.cl M.pof.m M.pof.F (hr.mono (by omega)) M.pof.b .nil pass0 (pa_cons (pe_ix (r := rIxT K) ix_tup (pv 1) pe_int (fun _ _ => rfl)) pa_nil)) rfl)
        (pss_one (ps_ret (pe_glob (v := .int 0) rfl hEND ⟨_, rfl⟩)))) pss_nil)
        (pss_cons (ps_if (pt_cmpR op_eq (pv 2) pe_str (nomark _)) (pss_cons (ps_set (i := 4) nd rfl (Or.inl rfl) (pe_meth0 (pv 0) W.cl M.fp.m M.fp.F (hr.mono (by omega)) M.fp.b .nil pass0))
        (pss_cons (ps_dput (hu_of hr) (Ob.pe_fldK (K := K) rfl (pv 0) rfl) (pv 3) (pv 4) rfl)
        (pss_cons (ps_dput (hu_of hr) (Ob.pe_fldK (K := K) rfl (pv 0) rfl) (pv 4) (pe_glob (v := .int 0) rfl hEND ⟨_, rfl⟩) rfl)
        (pss_cons (ps_dput (hu_of hr) (Ob.pe_fldK (K := K) rfl (pv 0) rfl) (pv 4) (pe_glob (v := .int 0) rfl hEND ⟨_, rfl⟩) rfl)
        (pss_cons (ps_dput (hu_of hr) (Ob.pe_fldK (K := K) rfl (pv 0) rfl) (pv 4) pe_bl rfl)
        (pss_one (ps_ret (pv 4)))))))) pss_nil)
        (pss_cons (ps_set (i := 4) nd rfl (Or.inl rfl) (pe_dget (hu_of hr) (Ob.pe_fldK (K := K) rfl (pv 0) rfl) (pe_ifExp (pt_cmpR op_eq (pv 2) pe_str (nomark _)) (pe_ix (r := rIxT K) ix_tup (pv 1) pe_int (fun _ _ => rfl)) (pv 3)) (fun _ _ => rfl)))
        (pss_cons (ps_if (pt_cmp (pc_dnotin (hu_of hr) (pv 4) (Ob.pe_fldK (K := K) rfl (pv 0) rfl))) (pss_one (ps_ret pe_non)) pss_nil)
        (pss_cons (ps_if (pt_cmpR op_eq (pv 2) pe_str (nomark _)) (pss_one (ps_dput (hu_of hr) (Ob.pe_fldK (K := K) rfl (pv 0) rfl) (pv 3) (pe_dget (hu_of hr) (Ob.pe_fldK (K := K) rfl (pv 0) rfl) (pv 4) (fun _ _ => rfl)) rfl)) (pss_one (ps_if (pt_cmpR op_eq (pv 2) pe_str (nomark _)) (pss_one (ps_dput (hu_of hr) (Ob.pe_fldK (K := K) rfl (pv 0) rfl) (pv 4) (pe_meth (pv 0) W.cl M.pof.m M.pof.F (hr.mono (by omega)) M.pof.b .nil pass0 (pa_cons (pe_ix (r := rIxT K) ix_tup (pv 1) pe_int (fun _ _ => rfl)) pa_nil)) rfl)) (pss_one (ps_expr (pe_bm PySem.F.plainAttrs_dict PySem.F.slot_dict_pop PySem.F.type_dict_pop Si.mt_popD (Ob.pe_fldK (K := K) rfl (pv 0) rfl) (pa_cons (pv 4) pa_nil)))))))
        (pss_one (ps_ret (pv 4))))))))), ?_⟩
    refine sq fun U hU => ?_
    walk_at "rd"
    have step : ∀ k a, atI (d.row.map V.str) 0 = some (.str k) → atI (d.row.map V.str) 1 = some (.str a) → U [some (.ref h), some (.ref b), some (.str k), some (.str a), none] H → (∃ x, SqT K H b x ∧ ∃ x_1, atI x 0 = some x_1 ∧ ∃ x, SqT K H b x ∧ ∃ x_2, atI x 1 = some x_2 ∧ U [some (V.ref h), some (V.ref b), some x_1, some x_2, none] H) := fun k a e e2 u =>
      ⟨_, SqT.of hb, .str k, e, _, SqT.of hb, .str a, e2, u⟩
    cases d with
    | copy a e =>
      refine step _ _ rfl rfl (hU _ _ ?_)
      clear step hU
      walk_at "rd"
      refine ⟨_, _, h1, rfl, _, SqT.of hb, .str e, rfl, h, d1, d2, d3, d4, ns, cs, us, ms, e, rfl, hp, kd.2, _, fn, d1, rfl, ?_⟩
      obtain ⟨p1, g1⟩ := put_n hp (let ⟨c, x, _⟩ := kd.1; ⟨c, x⟩) (by omega) (plc ns e)
      exact ⟨_, p1, k1 0 _ _ rfl _ g1 fun c o n _ _ _ e => by rw [upd_ne n]; exact e⟩
    | new a =>
      refine step _ _ rfl rfl (hU _ _ ?_)
      clear step hU
      walk_at "rd"
      refine ⟨_, _, h1, rfl, h, d1, d2, d3, d4, ns, cs, us, ms, rfl, hp, hl, fun H1 s1 => ?_⟩
      have g0 := hp.up s1
      generalize ep : Dd.fr (ns.map (·.2) ++ cs.map (·.2) ++ us.map (·.1)) = p
      obtain ⟨p1, g1⟩ := put_n g0 (let ⟨c, x, _⟩ := kd; ⟨c, x⟩) (by omega) p
      obtain ⟨p2, g2⟩ := put_c g1 (by omega) p 0
      obtain ⟨p3, g3⟩ := put_u g2 (by omega) p 0
      obtain ⟨p4, g4⟩ := put_m g3 hml p
      obtain ⟨x0, q0, _⟩ := id g0
      obtain ⟨x1, q1, _⟩ := id g1
      obtain ⟨x2, q2, _⟩ := id g2
      obtain ⟨x3, q3, _⟩ := id g3
      refine ⟨_, (HpD.fa W q0).1, d1, rfl, _, p1, _, (HpD.fa W q1).2.1, d2, rfl, _, p2, _, (HpD.fa W q2).2.2.1, d3, rfl, _, p3, _, (HpD.fa W q3).2.2.2, d4, rfl, _, p4, ?_⟩
      refine k1 p _ _ (by rw [← ep]; rfl) _ g4 fun c o n1 n2 n3 n4 e => ?_
      rw [upd_ne n4, upd_ne n3, upd_ne n2, upd_ne n1]
      exact s1 _ _ e
    | next a e =>
      refine step _ _ rfl rfl (hU _ _ ?_)
      clear step hU
      refine sq fun U hU => ?_
      walk_at "rd"
      rw [if_neg (by decide)]
      refine hU _ _ ?_
      clear hU
      refine sq fun U hU => ?_
      walk_at "rd"
      rw [if_neg (by decide)]
      refine hU _ _ ?_
      clear hU
      refine sq fun U hU => ?_
      walk_at "rd"
      refine ⟨_, fn, _, SqT.of hb, .str e, rfl, d1, rfl, _, get_l h2 kd.2, ?_⟩
      refine hU _ _ ?_
      clear hU
      refine sq fun U hU => ?_
      walk_at "rd"
      obtain ⟨dxx, hh1, _⟩ := id hp
      refine ⟨_, fc, d2, rfl, _, get_c hp (plc ns e), ?_⟩
      cases ec : look cs (plc ns e) with
      | none =>
        rw [if_pos (by rfl)]
        exact k0 (by show Option.map _ (look cs (plc ns e)) = none; rw [ec]; rfl)
      | some v =>
        rw [if_neg (by intro z; cases z)]
        refine hU _ _ ?_
        clear hU
        walk_at "rd"
        have gc := get_c hp (plc ns e)
        rw [ec] at gc
        obtain ⟨p1, g1⟩ := put_n hp (let ⟨c, x, _⟩ := kd.1; ⟨c, x⟩) (by omega) v
        exact ⟨_, fc, d2, rfl, _, gc, _, fn, d1, rfl, _, p1, k1 _ _ _ (by show Option.map _ (look cs (plc ns e)) = _; rw [ec]; rfl) _ g1 (fun c o n1 n2 n3 n4 e => by rw [upd_ne n1]; exact e)⟩
    | tie a e =>
      refine step _ _ rfl rfl (hU _ _ ?_)
      clear step hU
      refine sq fun U hU => ?_
      walk_at "rd"
      rw [if_neg (by decide)]
      refine hU _ _ ?_
      clear hU
      refine sq fun U hU => ?_
      walk_at "rd"
      rw [if_neg (by decide)]
      refine hU _ _ ?_
      clear hU
      refine sq fun U hU => ?_
      walk_at "rd"
      refine ⟨_, fn, ?_⟩
      rw [if_neg (by decide)]
      refine ⟨d1, rfl, _, get_l h2 kd.1, ?_⟩
      refine hU _ _ ?_
      clear hU
      refine sq fun U hU => ?_
      walk_at "rd"
      obtain ⟨dxx, hh1, _⟩ := id hp
      refine ⟨_, fc, d2, rfl, _, get_c hp (plc ns a), ?_⟩
      cases ec : look cs (plc ns a) with
      | none =>
        rw [if_pos (by rfl)]
        exact k0 (by show Option.map _ (look cs (plc ns a)) = none; rw [ec]; rfl)
      | some v =>
        rw [if_neg (by intro z; cases z)]
        refine hU _ _ ?_
        clear hU
        walk_at "rd"
        rw [if_neg (by decide)]
        obtain ⟨p1, g1⟩ := put_c hp (by omega) (plc ns a) (plc ns e)
        exact ⟨_, _, h1, rfl, _, SqT.of hb, .str e, rfl, h, d1, d2, d3, d4, ns, cs, us, ms, e, rfl, hp, kd.2, _, fc, d2, rfl, _, p1, k1 _ _ _ (by show Option.map _ (look cs (plc ns a)) = _; rw [ec]; rfl) _ g1 (fun c o n1 n2 n3 n4 e => by rw [upd_ne n2]; exact e)⟩
    | drop a =>
      refine step _ _ rfl rfl (hU _ _ ?_)
      clear step hU
      refine sq fun U hU => ?_
      walk_at "rd"
      rw [if_neg (by decide)]
      refine hU _ _ ?_
      clear hU
      refine sq fun U hU => ?_
      walk_at "rd"
      rw [if_neg (by decide)]
      refine hU _ _ ?_
      clear hU
      refine sq fun U hU => ?_
      walk_at "rd"
      refine ⟨_, fn, ?_⟩
      rw [if_neg (by decide)]
      refine ⟨d1, rfl, _, get_l h2 kd, ?_⟩
      refine hU _ _ ?_
      clear hU
      refine sq fun U hU => ?_
      walk_at "rd"
      obtain ⟨dxx, hh1, _⟩ := id hp
      refine ⟨_, fc, d2, rfl, _, get_c hp (plc ns a), ?_⟩
      cases ec : look cs (plc ns a) with
      | none =>
        rw [if_pos (by rfl)]
        exact k0 (by show Option.map _ (look cs (plc ns a)) = none; rw [ec]; rfl)
      | some v =>
        rw [if_neg (by intro z; cases z)]
        refine hU _ _ ?_
        clear hU
        walk_at "rd"
        rw [if_neg (by decide), if_neg (by decide)]
        refine ⟨_, fc, .inr (.inr (.inl ⟨rfl, .inl ⟨_, h3⟩⟩)), d2, _, (.inl ((plc ns a : Nat) : Int)), .int (v : Nat), rfl, rfl, h3, ?_, ?_⟩
        · rw [val_c, if_pos (by omega), Int.toNat_natCast, ec]
          rfl
        · rw [Dd.dl_ck]
          exact k1 _ _ _ (by show Option.map _ (look cs (plc ns a)) = _; rw [ec]; rfl) _ (drop_c hp (plc ns a)) (fun c o n1 n2 n3 n4 e => by rw [upd_ne n2]; exact e)
end
end K39

set_option Elab.async false
set_option linter.all false
set_option maxRecDepth 100000
set_option maxHeartbeats 4000000
namespace K39
open PySem PySem.Spec PyProof.Rows L2 Rd Dt Dq Pk Ln En Sx Sy So Sr Lk TL
open K39S (StA StB StM LSt HpA HpB spMade spTxt map_at kit_self sorted_names keys_n keys_c get_n get_d DcOk asc_nodup nuP nuP_step vN)
local macro_rules | `(tactic| walk_at "rd") => `(tactic| try simp only [↓De.tFor_str, ↓Lk.tLockE_, ↓Lk.tLock_, ↓Lk.tLc_keys, ↓Lk.tFor_keys, ↓Sy.tTupP_, ↓Sy.rTupP_, ↓Sy.rCatP_, ↓Sy.rSlP_, ↓Sy.rDictT_, ↓Sy.tDGet_, ↓Sy.tDGet1_, ↓Sy.tDIn_, ↓Sy.tDNotIn_, ↓Sy.tMeth_, ↓Sy.tMethKw_, ↓Sy.rSortedS_, ↓Sx.rIsT_, ↓En.tFor_enumT, ↓Sy.tFor_enumL, ↓Rv.tMakeKw_, ↓Prp.tProp_, ↓Lo.tBits_, ↓Lo.tJs_n, ↓Lo.tJs_c, ↓Lo.tFmt_, ↓Lo.gFld_, ↓Lo.tMake_, ↓Lo.rOwn_, ↓Rg.tFor_range3, ↓Rg.tLc_range3, ↓Rg.tLstC_, ↓Rg.tLc_rngV, ↓Le.rNeLE_, ↓Le.rEqLE_, ↓Ls.tLc_str, ↓Ls.sDPut_, ↓Rl.rReprL_, ↓Rl.tCallKS_, ↓Ob.tFld_, ↓Ob.sFld_, ↓tVar_, ↓tC_, ↓tM1, ↓tDNewK_, ↓tOp_, ↓tUn_, ↓rI_, ↓rI0_, ↓rU_, ↓eq_ii, ↓ne_ii, ↓eq_ss, ↓ne_ss, ↓eq_bb, ↓ne_bb, ↓tAndV_, ↓tOrV_, ↓tNotV_, ↓tIf_, ↓tTest_, ↓tB_, ↓tAnd_, ↓tOr_, ↓tNot_, ↓tChain_, ↓tNil_, ↓tCons_, ↓tTup_, ↓tLst_, ↓tCB_, ↓tCall_, ↓tSeq_, ↓tNext_, ↓tRet_, ↓tRetN_, ↓tDrop_, ↓tBreak_, ↓tNever_, ↓tIfS_, ↓tAsg_, ↓gName_, ↓gTup_, ↓gCons_, ↓gNil_, ↓gSub_, ↓tPar_, ↓tPar3_, ↓tSl_, ↓tNoPart_, ↓tPart_, ↓tBM_, ↓tFor_range1, ↓tFor_range2, ↓tFor_list, ↓tFor_tup, L2.start, List.headD_cons, List.headD_nil, List.tail_cons, List.map_cons, List.map_nil, List.length_cons, List.length_nil, List.replicate, List.append_nil, List.nil_append, List.cons_append, List.getElem?_cons_zero, List.getElem?_cons_succ, List.set_cons_zero, List.set_cons_succ, Option.some.injEq, V.int.injEq, V.bl.injEq, V.str.injEq, V.ref.injEq, exists_eq_left, exists_eq_left', exists_eq_right, exists_eq, exists_and_left, and_true, true_and, decide_eq_true_eq, Nat.reduceAdd, Nat.reduceSub, Nat.add_zero, Nat.zero_add, List.cons.injEq, Bool.not_eq_true', decide_eq_false_iff_not, eq_self, reduceCtorEq, Bool.false_eq_true, if_true, if_false, ite_true, ite_false, and_self, ↓tLc_range1, ↓tLc_range2, ↓tLc_list, ↓tLc_tup, ↓tYes_, wipe0, wipe1, ↓tCallS_, ↓rIxL_, ↓rIxT_, ↓rSlL_, ↓rCat_, ↓rSetL_, ↓rRep_, ↓rGcd_, ↓tCallK_, ↓gUnl_, ↓tRaise_, decide_true, decide_false, not_true_eq_false, not_false_eq_true, false_and, or_false, false_or, and_false, and_assoc, exists_const, forall_const, forall_eq'])
section
variable {P : Program} {w : World} {K : PySem.W.Frag} {mg : Str → Option Value} {base : Heap}
/-! ### the store of a heap -/
theorem lett_tl (ns : List (Nat × Nat)) : (lettT ns).cps.toList = ns.map (·.1) := by
  show tl (lettT ns) = ns.map (·.1)
  unfold lettT
  rw [join_eq, tl_join, show tl "" = [] from by decide +kernel, List.map_map]
  have go : ∀ l : List (Nat × Nat), joinL [] (l.map (tl ∘ fun n => L1 n.1)) = l.map (·.1) := fun l => by
    induction l with
    | nil => rfl
    | cons a r ih =>
      cases r with
      | nil => rfl
      | cons b r =>
        show [a.1] ++ ([] ++ joinL [] ((b :: r).map (tl ∘ fun n => L1 n.1))) = _
        rw [ih]
        rfl
  exact go ns
theorem srt_uniq {ds cs : List (Nat × Nat)} (p : ds.Perm cs) (h : ds.Pairwise fun x y => x.1 ≤ y.1) (nd : (cs.map (·.1)).Nodup) : ds = srt cs := by
  have n2 : ds.Pairwise fun x y => x.1 ≠ y.1 := List.pairwise_map.mp ((p.map _).nodup_iff.mpr nd)
  exact asc_uniq ((h.and n2).imp fun {a b} q => by have := q.1; have := q.2; omega) (srt_asc nd) (p.trans (srt_perm cs).symm)
def spSr (K : PySem.W.Frag) (C CS : Addr) : Sp := fun vs H Q _ => ∃ (h d1 d2 d3 d4 : Addr) (ns cs us : List (Nat × Nat)) (ms : List Nat), vs = [.ref h, .str (lettT ns)] ∧ HpD C H h d1 d2 d3 d4 ns cs us ms ∧ NmOk ns ∧ Dd.CB 500 cs ∧ ∀ r H', Same H H' → StA K CS H' r ns (srt cs) → Q (.ref r) H'
theorem sc_sr : FnScope ["self", "letters", "letter"] ["self", "letters"] (defScope (inClass (top 28) 6)) := ⟨rfl, rfl, rfl, by decide +kernel, rfl, by decide +kernel, by decide +kernel⟩
theorem ok_sr {f C CS fi : Addr} {fd fdI : FuncData} {q : Str} (T : Th mg) (W : HpB K C) (L : StM K mg CS fi) (F : K39S.FM K "store" q (inClass (top 28) 6) f fd) (F_init : FnOk P w K mg base CX0 5 fi fdI ["self", "names", "cells"] (K39S.spInit K CS)) (b_init : Binds K fdI ["self", "names", "cells"] []) : FnOk P w K mg base CX0 7 f fd ["self", "letters"] (spSr K C CS) := by
  refine F.ok sc_sr (fun vs H Q E h => ?_) (fun cdv A outer s H vs Q E hr h => ?_)
  · obtain ⟨_, _, _, _, _, _, _, _, _, rfl, _⟩ := h
    rfl
  · obtain ⟨h, d1, d2, d3, d4, ns, cs, us, ms, rfl, hp, okn, okc, k⟩ := h
    have nd := sc_sr.nd
    obtain ⟨dx, h1, h2, h3, h4, h5, h6⟩ := id hp
    obtain ⟨fn, fc, fu, fm⟩ := HpD.fa W h1
    have zl : (1000000 : Nat) ≤ sizeLine := line_big
    refine ⟨_, (pss_one (ps_ret (pe_make L.mkr F_init (hr.mono (by omega)) rfl L.g b_init .nil pass0 (pa_cons (pe_callTy (En.call_tupP (K := K) rfl) (by rfl) T.b_tuple (by decide +kernel) (pa_cons (pe_lc (own := [("letter", 2)]) rfl nd (pi_str (pv 1)) (blkOk_by (N := ["self", "letters", "letter"]) (sc := defScope (inClass (top 28) 6)) (by decide +kernel)) (fun _ _ _ _ _ => (pg_name (i := 2) nd rfl (Or.inl rfl))) (fun _ _ _ _ _ => pts_nil) (fun _ _ _ _ _ => (pe_tup (pa_cons (pv 2) (pa_cons (pe_dget (hu_of hr) (Ob.pe_fldK (K := K) rfl (pv 0) rfl) (pv 2) (fun _ _ => rfl)) pa_nil))))) pa_nil)) (pa_cons (pe_callTy (En.call_tupP (K := K) rfl) (by rfl) T.b_tuple (by decide +kernel) (pa_cons (Si.pe_weak (t' := Si.tSI K _) (pe_callB (Si.cr_sortedIt (K := K) rfl rfl) (by rfl) T.b_sorted (by decide +kernel) (pa_cons (pe_bm0 PySem.F.plainAttrs_dict PySem.F.slot_dict_items PySem.F.type_dict_items Si.mt_itemsK (Ob.pe_fldK (K := K) rfl (pv 0) rfl)) pa_nil)) (fun σ H Q h => Si.si_ok Si.mono_fld h)) pa_nil)) pa_nil))))), ?_⟩
    walk_at "rd"
    simp only [Si.tSI]
    walk_at "rd"
    have lz : (lettT ns).cps.toList.length = ns.length := by rw [lett_tl, List.length_map]
    have ln := okn.2.1
    refine Ls.lc_s (fun D => pairP K H (ns.map nk) D) fun D hD => ⟨pairP_0 hD, ?_, ?_⟩
    · intro j c H6 hc hP
      rw [lett_tl, List.getElem?_map] at hc
      obtain ⟨n, hn, rfl⟩ := Option.map_eq_some_iff.mp hc
      obtain ⟨f6, _, _, _⟩ := HpD.fa W (hP.1 _ _ h1)
      unfold Lturn
      walk_at "rd"
      exact ⟨_, f6, d1, rfl, _, get_n (hP.1 _ _ h2) okn.2.2.2 (List.mem_of_getElem? hn), by omega, fun N hN => pairP_step (kv := nk n) (by rw [List.length_map]; omega) hP hD (by rw [List.getElem?_map, hn]; rfl) hN rfl rfl⟩
    · rintro H6 ⟨hs, zs, hL, hP⟩
      rw [lz, List.take_of_length_le (by rw [List.length_map]; exact Nat.le_refl _)] at hP
      refine ⟨D, rfl, zs, SqL.of hL, fun l o hl ho => ?_⟩
      have s7 : Same H6 (upd H6 l (.frz o (.tup zs))) := same_new hl
      have hnl : PrsAt K (upd H6 l (.frz o (.tup zs))) l (ns.map nk) := ⟨zs, .new ho, hP.up s7⟩
      have s07 := hs.trans s7
      generalize upd H6 l (.frz o (.tup zs)) = H7 at s7 hnl s07 ⊢
      obtain ⟨_, f7, _, _⟩ := HpD.fa W (s07 _ _ h1)
      refine ⟨_, f7, d2, rfl, cs, s07 _ _ h3, by have := okc.1; omega, fun H8 ws ds l1 s8 pm pw prs hl1 => ?_⟩
      obtain rfl := srt_uniq pm pw okc.2.2
      refine ⟨ws, SqL.of hl1, fun l2 o2 hl2 ho2 x dx hx hdx hne => ?_⟩
      have sl : Same H8 (upd H8 l2 (.frz o2 (.tup ws))) := same_new hl2
      have hcl : PrsAt K (upd H8 l2 (.frz o2 (.tup ws))) l2 ((srt cs).map ck) := ⟨ws, .new ho2, prs.up sl⟩
      have hn2 : PrsAt K (upd H8 l2 (.frz o2 (.tup ws))) l (ns.map nk) := hnl.up (s8.trans sl)
      generalize upd H8 l2 (.frz o2 (.tup ws)) = H10 at sl hcl hn2 hx hdx ⊢
      have ms := fun (H4 : Hp) (b4 : But x (upd (upd H10 dx (.own x)) x (.ins CS dx [])) H4) => K39S.make_same hx hdx b4
      exact ⟨x, _, l, l2, ns, _, rfl, upd_same, K39S.PrsAt.make hx hdx hn2, K39S.PrsAt.make hx hdx hcl, okn, ⟨by rw [srt_len]; exact okc.1, fun c hc => okc.2.1 c ((srt_perm cs).mem_iff.mp hc), srt_asc okc.2.2⟩, fun H4 b4 st => ⟨rfl, k x H4 (s07.trans (s8.trans (sl.trans (ms H4 b4)))) st⟩⟩
end
end K39

set_option Elab.async false
set_option linter.all false
set_option maxRecDepth 100000
set_option maxHeartbeats 4000000
namespace K39
open PySem PySem.Spec PyProof.Rows L2 Rd Dt Dq Pk Ln En Sx Sy So Sr Lk TL
open K39S (StA StB StM LSt HpA HpB spMade spTxt map_at kit_self sorted_names keys_n keys_c get_n get_d DcOk asc_nodup nuP nuP_step vN)
local macro_rules | `(tactic| walk_at "rd") => `(tactic| try simp only [↓De.tFor_str, ↓Lk.tLockE_, ↓Lk.tLock_, ↓Lk.tLc_keys, ↓Lk.tFor_keys, ↓Sy.tTupP_, ↓Sy.rTupP_, ↓Sy.rCatP_, ↓Sy.rSlP_, ↓Sy.rDictT_, ↓Sy.tDGet_, ↓Sy.tDGet1_, ↓Sy.tDIn_, ↓Sy.tDNotIn_, ↓Sy.tMeth_, ↓Sy.tMethKw_, ↓Sy.rSortedS_, ↓Sx.rIsT_, ↓En.tFor_enumT, ↓Sy.tFor_enumL, ↓Rv.tMakeKw_, ↓Prp.tProp_, ↓Lo.tBits_, ↓Lo.tJs_n, ↓Lo.tJs_c, ↓Lo.tFmt_, ↓Lo.gFld_, ↓Lo.tMake_, ↓Lo.rOwn_, ↓Rg.tFor_range3, ↓Rg.tLc_range3, ↓Rg.tLstC_, ↓Rg.tLc_rngV, ↓Le.rNeLE_, ↓Le.rEqLE_, ↓Ls.tLc_str, ↓Ls.sDPut_, ↓Rl.rReprL_, ↓Rl.tCallKS_, ↓Ob.tFld_, ↓Ob.sFld_, ↓tVar_, ↓tC_, ↓tM1, ↓tDNewK_, ↓tOp_, ↓tUn_, ↓rI_, ↓rI0_, ↓rU_, ↓eq_ii, ↓ne_ii, ↓eq_ss, ↓ne_ss, ↓eq_bb, ↓ne_bb, ↓tAndV_, ↓tOrV_, ↓tNotV_, ↓tIf_, ↓tTest_, ↓tB_, ↓tAnd_, ↓tOr_, ↓tNot_, ↓tChain_, ↓tNil_, ↓tCons_, ↓tTup_, ↓tLst_, ↓tCB_, ↓tCall_, ↓tSeq_, ↓tNext_, ↓tRet_, ↓tRetN_, ↓tDrop_, ↓tBreak_, ↓tNever_, ↓tIfS_, ↓tAsg_, ↓gName_, ↓gTup_, ↓gCons_, ↓gNil_, ↓gSub_, ↓tPar_, ↓tPar3_, ↓tSl_, ↓tNoPart_, ↓tPart_, ↓tBM_, ↓tFor_range1, ↓tFor_range2, ↓tFor_list, ↓tFor_tup, L2.start, List.headD_cons, List.headD_nil, List.tail_cons, List.map_cons, List.map_nil, List.length_cons, List.length_nil, List.replicate, List.append_nil, List.nil_append, List.cons_append, List.getElem?_cons_zero, List.getElem?_cons_succ, List.set_cons_zero, List.set_cons_succ, Option.some.injEq, V.int.injEq, V.bl.injEq, V.str.injEq, V.ref.injEq, exists_eq_left, exists_eq_left', exists_eq_right, exists_eq, exists_and_left, and_true, true_and, decide_eq_true_eq, Nat.reduceAdd, Nat.reduceSub, Nat.add_zero, Nat.zero_add, List.cons.injEq, Bool.not_eq_true', decide_eq_false_iff_not, eq_self, reduceCtorEq, Bool.false_eq_true, if_true, if_false, ite_true, ite_false, and_self, ↓tLc_range1, ↓tLc_range2, ↓tLc_list, ↓tLc_tup, ↓tYes_, wipe0, wipe1, ↓tCallS_, ↓rIxL_, ↓rIxT_, ↓rSlL_, ↓rCat_, ↓rSetL_, ↓rRep_, ↓rGcd_, ↓tCallK_, ↓gUnl_, ↓tRaise_, decide_true, decide_false, not_true_eq_false, not_false_eq_true, false_and, or_false, false_or, and_false, and_assoc, exists_const, forall_const, forall_eq'])
section
variable {P : Program} {w : World} {K : PySem.W.Frag} {mg : Str → Option Value} {base : Heap}
/-! ### a drawn deed -/
def InZ (z : Str) (s : Str) : Prop := ∃ c ∈ z.cps.toList, s = L1 c
def DeedIn (z : Str) : Dd.Deed → Prop
  | .copy a e => InZ z a ∧ (e = "END" ∨ InZ z e)
  | .tie a e => InZ z a ∧ (e = "END" ∨ InZ z e)
  | .next a e => InZ z a ∧ InZ z e
  | .new a => InZ z a
  | .drop a => InZ z a
def SgZ (z : Str) : Prop := 1 ≤ z.cps.toList.length ∧ z.cps.toList.length ≤ 100 ∧ ∀ c ∈ z.cps.toList, c ∈ abc.cps.toList
theorem SgZ.row {z : Str} (h : SgZ z) (H : Hp) : Row H (.str z) (z.cps.toList.map fun c => V.str ⟨#[c]⟩) ∧ 1 ≤ (z.cps.toList.map fun c => V.str ⟨#[c]⟩).length ∧ (z.cps.toList.map fun c => V.str ⟨#[c]⟩).length ≤ 100 ∧ ∀ y ∈ (z.cps.toList.map fun c => V.str ⟨#[c]⟩), ∃ s : Str, y = .str s ∧ InZ z s := by
  refine ⟨.str z (Nat.le_trans (show z.length ≤ 100 from h.2.1) (by rw [sizeLine_eq]; decide)), by rw [List.length_map]; exact h.1, by rw [List.length_map]; exact h.2.1, fun y hy => ?_⟩
  obtain ⟨c, hc, rfl⟩ := List.mem_map.mp hy
  exact ⟨_, rfl, c, hc, rfl⟩
theorem WellAt.ne {H : Hp} {u p : Addr} (w : WellAt H u) (h : H p = none) : p ≠ u := fun z => by
  obtain ⟨a, b, c, e⟩ := w
  rw [z, e] at h
  cases h
theorem but_none {u p : Addr} {H H' : Hp} (a : But u H H') (w : WellAt H' u) (n : H' p = none) : H p = none := by
  cases e : H p with
  | none => rfl
  | some o =>
    have := a _ _ (w.ne n) e
    rw [n] at this
    cases this
def spAct : Sp := fun vs H Q _ => ∃ (u : Addr) (z : Str), vs = [.ref u, .str z] ∧ WellAt H u ∧ SgZ z ∧ ∀ (b : Addr) (d : Dd.Deed) (H' : Hp), But u H H' → WellAt H' u → H b = none → H' b = some (.tup (d.row.map V.str)) → DeedIn z d → Q (.ref b) H'
theorem sc_oa : FnScope ["_law_well_here", "_law_signs", "_law_branch", "_law_one", "_law_two"] ["_law_well_here", "_law_signs"] (defScope (top 49)) := ⟨rfl, rfl, rfl, by decide +kernel, rfl, by decide +kernel, by decide +kernel⟩
theorem ok_oa {f : Addr} {fd : FuncData} (T : Th mg) (F : FD K "_law_one_act" (top 49) f fd) {f1 f2 : Addr} {fd1 fd2 : FuncData} (C1 : Cal P w K mg base CX0 1 "_law_take" ["_law_well_here", "_law_limit"] spTake f1 fd1) (C2 : Cal P w K mg base CX0 2 "_law_pick" ["_law_well_here", "_law_some"] spPick f2 fd2) : FnOk P w K mg base CX0 3 f fd ["_law_well_here", "_law_signs"] spAct := by
  obtain ⟨g_law_take, k_law_take, b_law_take, F_law_take⟩ := C1
  obtain ⟨g_law_pick, k_law_pick, b_law_pick, F_law_pick⟩ := C2
  refine F.ok sc_oa (fun vs H Q E h => ?_) (fun cdv A outer s H vs Q E hr h => ?_)
  · obtain ⟨_, _, rfl, _⟩ := h
    rfl
  · obtain ⟨u, z, rfl, hw, hz, k⟩ := h
    have nd := sc_oa.nd
    refine ⟨_, (pss_cons (ps_par3 rfl nd (i := 2) (j := 3) (l := 4) rfl rfl rfl (by decide) (by decide) (by decide) rfl rfl rfl (pa_cons (pe_call F_law_take (hr.mono (by omega)) rfl g_law_take k_law_take b_law_take .nil pass0 (pa_cons (pv 0) (pa_cons pe_int pa_nil))) (pa_cons (pe_call F_law_pick (hr.mono (by omega)) rfl g_law_pick k_law_pick b_law_pick .nil pass0 (pa_cons (pv 0) (pa_cons (pv 1) pa_nil))) (pa_cons (pe_call F_law_pick (hr.mono (by omega)) rfl g_law_pick k_law_pick b_law_pick .nil pass0 (pa_cons (pv 0) (pa_cons (pv 1) pa_nil))) pa_nil))) rfl)
        (pss_cons (ps_if (pt_cmpR op_lt (pv 2) pe_int (nomark _)) (pss_one (ps_ret (pe_tup (pa_cons pe_str (pa_cons (pv 3) (pa_cons (pe_ifExp (pt_cmpR op_eq (pv 2) pe_int (nomark _)) (pv 4) pe_str) pa_nil)))))) pss_nil)
        (pss_cons (ps_if (pt_cmpR op_lt (pv 2) pe_int (nomark _)) (pss_one (ps_ret (pe_tup (pa_cons pe_str (pa_cons (pv 3) (pa_cons (pv 4) pa_nil)))))) pss_nil)
        (pss_cons (ps_if (pt_cmpR op_lt (pv 2) pe_int (nomark _)) (pss_one (ps_ret (pe_tup (pa_cons pe_str (pa_cons (pv 3) (pa_cons (pe_ifExp (pt_cmpR op_lt (pv 2) pe_int (nomark _)) (pv 4) pe_str) pa_nil)))))) pss_nil)
        (pss_one (ps_ret (pe_ifExp (pt_cmpR op_eq (pv 2) pe_int (nomark _)) (pe_tup (pa_cons pe_str (pa_cons (pv 3) pa_nil))) (pe_tup (pa_cons pe_str (pa_cons (pv 3) pa_nil)))))))))), ?_⟩
    refine sq fun U hU => ?_
    walk_at "rd"
    refine ⟨u, 10, rfl, hw, by decide, by decide, fun br H1 b1 w1 br0 br1 => ?_⟩
    obtain ⟨r1, r2, r3, r4⟩ := hz.row H1
    refine ⟨u, .str z, _, rfl, w1, (fun q => nomatch q), r1, r2, by omega, fun y1 H2 b2 w2 hy1 => ?_⟩
    obtain ⟨q1, q2, q3, q4⟩ := hz.row H2
    refine ⟨u, .str z, _, rfl, w2, (fun q => nomatch q), q1, q2, by omega, fun y2 H3 b3 w3 hy2 => hU _ _ ?_⟩
    clear hU
    obtain ⟨s1, rfl, i1⟩ := r4 y1 hy1
    obtain ⟨s2, rfl, i2⟩ := q4 y2 hy2
    have bb := b1.trans (b2.trans b3)
    have fin : ∀ (d : Dd.Deed) (p : Addr), H3 p = none → DeedIn z d → Q (.ref p) (upd H3 p (.tup (d.row.map V.str))) := fun d p hp hd =>
      k p d _ (bb.trans (But.same (same_new hp))) (w3.but (same_new hp)) (but_none bb w3 hp) upd_same hd
    refine sq fun U hU => ?_
    walk_at "rd"
    by_cases x2 : br < 2
    · rw [if_pos x2]
      by_cases x0 : br = 0
      · rw [if_pos x0]
        exact ⟨by decide, fun p hp => fin (.copy s1 s2) p hp ⟨i1, .inr i2⟩⟩
      · rw [if_neg x0]
        exact ⟨by decide, fun p hp => fin (.copy s1 "END") p hp ⟨i1, .inl rfl⟩⟩
    rw [if_neg x2]
    refine hU _ _ ?_
    clear hU
    refine sq fun U hU => ?_
    walk_at "rd"
    by_cases x5 : br < 5
    · rw [if_pos x5]
      exact ⟨by decide, fun p hp => fin (.next s1 s2) p hp ⟨i1, i2⟩⟩
    rw [if_neg x5]
    refine hU _ _ ?_
    clear hU
    refine sq fun U hU => ?_
    walk_at "rd"
    by_cases x8 : br < 8
    · rw [if_pos x8]
      by_cases x7 : br < 7
      · rw [if_pos x7]
        exact ⟨by decide, fun p hp => fin (.tie s1 s2) p hp ⟨i1, .inr i2⟩⟩
      · rw [if_neg x7]
        exact ⟨by decide, fun p hp => fin (.tie s1 "END") p hp ⟨i1, .inl rfl⟩⟩
    rw [if_neg x8]
    refine hU _ _ ?_
    clear hU
    walk_at "rd"
    by_cases y8 : br = 8
    · rw [if_pos y8]
      exact ⟨by decide, fun p hp => fin (.new s1) p hp i1⟩
    · rw [if_neg y8]
      exact ⟨by decide, fun p hp => fin (.drop s1) p hp i1⟩
end
end K39

set_option Elab.async false
set_option linter.all false
set_option maxRecDepth 100000
set_option maxHeartbeats 4000000
namespace K39
open PySem PySem.Spec PyProof.Rows L2 Rd Dt Dq Pk Ln En Sx Sy So Sr Lk TL
open K39S (StA StB StM LSt HpA HpB spMade spTxt map_at kit_self sorted_names keys_n keys_c get_n get_d DcOk asc_nodup nuP nuP_step vN)
local macro_rules | `(tactic| walk_at "rd") => `(tactic| try simp only [↓De.tFor_str, ↓Lk.tLockE_, ↓Lk.tLock_, ↓Lk.tLc_keys, ↓Lk.tFor_keys, ↓Sy.tTupP_, ↓Sy.rTupP_, ↓Sy.rCatP_, ↓Sy.rSlP_, ↓Sy.rDictT_, ↓Sy.tDGet_, ↓Sy.tDGet1_, ↓Sy.tDIn_, ↓Sy.tDNotIn_, ↓Sy.tMeth_, ↓Sy.tMethKw_, ↓Sy.rSortedS_, ↓Sx.rIsT_, ↓En.tFor_enumT, ↓Sy.tFor_enumL, ↓Rv.tMakeKw_, ↓Prp.tProp_, ↓Lo.tBits_, ↓Lo.tJs_n, ↓Lo.tJs_c, ↓Lo.tFmt_, ↓Lo.gFld_, ↓Lo.tMake_, ↓Lo.rOwn_, ↓Rg.tFor_range3, ↓Rg.tLc_range3, ↓Rg.tLstC_, ↓Rg.tLc_rngV, ↓Le.rNeLE_, ↓Le.rEqLE_, ↓Ls.tLc_str, ↓Ls.sDPut_, ↓Rl.rReprL_, ↓Rl.tCallKS_, ↓Ob.tFld_, ↓Ob.sFld_, ↓tVar_, ↓tC_, ↓tM1, ↓tDNewK_, ↓tOp_, ↓tUn_, ↓rI_, ↓rI0_, ↓rU_, ↓eq_ii, ↓ne_ii, ↓eq_ss, ↓ne_ss, ↓eq_bb, ↓ne_bb, ↓tAndV_, ↓tOrV_, ↓tNotV_, ↓tIf_, ↓tTest_, ↓tB_, ↓tAnd_, ↓tOr_, ↓tNot_, ↓tChain_, ↓tNil_, ↓tCons_, ↓tTup_, ↓tLst_, ↓tCB_, ↓tCall_, ↓tSeq_, ↓tNext_, ↓tRet_, ↓tRetN_, ↓tDrop_, ↓tBreak_, ↓tNever_, ↓tIfS_, ↓tAsg_, ↓gName_, ↓gTup_, ↓gCons_, ↓gNil_, ↓gSub_, ↓tPar_, ↓tPar3_, ↓tSl_, ↓tNoPart_, ↓tPart_, ↓tBM_, ↓tFor_range1, ↓tFor_range2, ↓tFor_list, ↓tFor_tup, L2.start, List.headD_cons, List.headD_nil, List.tail_cons, List.map_cons, List.map_nil, List.length_cons, List.length_nil, List.replicate, List.append_nil, List.nil_append, List.cons_append, List.getElem?_cons_zero, List.getElem?_cons_succ, List.set_cons_zero, List.set_cons_succ, Option.some.injEq, V.int.injEq, V.bl.injEq, V.str.injEq, V.ref.injEq, exists_eq_left, exists_eq_left', exists_eq_right, exists_eq, exists_and_left, and_true, true_and, decide_eq_true_eq, Nat.reduceAdd, Nat.reduceSub, Nat.add_zero, Nat.zero_add, List.cons.injEq, Bool.not_eq_true', decide_eq_false_iff_not, eq_self, reduceCtorEq, Bool.false_eq_true, if_true, if_false, ite_true, ite_false, and_self, ↓tLc_range1, ↓tLc_range2, ↓tLc_list, ↓tLc_tup, ↓tYes_, wipe0, wipe1, ↓tCallS_, ↓rIxL_, ↓rIxT_, ↓rSlL_, ↓rCat_, ↓rSetL_, ↓rRep_, ↓rGcd_, ↓tCallK_, ↓gUnl_, ↓tRaise_, decide_true, decide_false, not_true_eq_false, not_false_eq_true, false_and, or_false, false_or, and_false, and_assoc, exists_const, forall_const, forall_eq'])
section
variable {P : Program} {w : World} {K : PySem.W.Frag} {mg : Str → Option Value} {base : Heap}
/-! ### what holds looks at -/
abbrev ErS (K : PySem.W.Frag) (mg : Str → Option Value) := Er K mg "NotAStore" "given"
abbrev ErU (K : PySem.W.Frag) (mg : Str → Option Value) := Er K mg "UnknownName" "given"
def nDat : List Value := [.type "NoneType", .type "bool", .type "int", .type "str", .type "list", .type "tuple", .type "dict"]
def NoS (K : PySem.W.Frag) (C : Addr) : Prop := ∀ t ∈ nDat, PySem.W.kitOne K t (.ref C) = some false
theorem dq_ty {H : Hp} {x : V} {d : PyData} (h : Dq K H x d) : ∃ t ∈ nDat, TyOf K H x t := by
  cases h with
  | non => exact ⟨_, by simp [nDat], .non⟩
  | bl b => exact ⟨_, by simp [nDat], .bl b⟩
  | int i _ => exact ⟨_, by simp [nDat], .int i⟩
  | str s _ => exact ⟨_, by simp [nDat], .str s⟩
  | lst e _ _ => exact ⟨_, by simp [nDat], .lst e⟩
  | tup e _ => exact ⟨_, by simp [nDat], .tup e⟩
  | dic e => exact ⟨_, by simp [nDat], .dK e⟩
def Err (H : Hp) (E : XK) (C : Addr) (x : V) : Prop := ∀ dd H', Same H H' → H' dd = none → E (.ref C) (some dd) (upd H' dd (.xd [("given", x)]))
def spChkX (K : PySem.W.Frag) (C CN : Addr) : Sp := fun vs H Q E => ∃ (x : V), vs = [x] ∧ ((∃ (r : Addr) (ns cs : List (Nat × Nat)), x = .ref r ∧ StA K C H r ns cs ∧ Q .non H) ∨ (∃ d, Dq K H x d ∧ Err H E CN x))
theorem sc_chk : FnScope ["value"] ["value"] (defScope (top 26)) := ⟨rfl, rfl, rfl, by decide +kernel, rfl, by decide +kernel, by decide +kernel⟩
theorem ok_chk {f C CN fi fI : Addr} {fd fdI : FuncData} (T : Th mg) (N : NoS K C) (L : StM K mg C fi) (R : ErS K mg CN fI fdI) (F : FD K "check_store" (top 26) f fd) : FnOk P w K mg base (L2.CX P w) 3 f fd ["value"] (spChkX K C CN) := by
  refine F.ok sc_chk (fun vs H Q E h => ?_) (fun cdv A outer s H vs Q E hr h => ?_)
  · obtain ⟨_, rfl, _⟩ := h
    rfl
  · obtain ⟨x, rfl, h⟩ := h
    have nd := sc_chk.nd
    refine ⟨_, (pss_one (ps_if (pt_not (pt_val (pe_callB call_isi (by rfl) T.b_isinstance (by decide +kernel) (pa_cons (pv 0) (pa_cons (pe_glob (v := .ref C) rfl L.g rfl) pa_nil))))) (pss_one (ps_raiseE rfl R hr (takes_of rfl rfl rfl rfl) (pv 0) mono_var)) pss_nil)), ?_⟩
    walk_at "rd"
    rcases h with ⟨r, ns, cs, rfl, ⟨dx, an, ac, dp, da, hr0, _⟩, k⟩ | ⟨d, hd, k⟩
    · exact ⟨_, _, .ref C, .ref C, true, rfl, .own C, .base (.ins hr0 L.own.cl L.own.ha L.own.hn L.own.ht L.own.hm), kit_self, true, rfl, k⟩
    · obtain ⟨t, ht, ty⟩ := dq_ty hd
      exact ⟨_, _, t, .ref C, false, rfl, .own C, .base ty, N t ht, false, rfl, fun dd hdd => k dd H (Same.refl _) hdd⟩
def kn (ns : List (Nat × Nat)) (s : Str) : Bool := (look ns (s.cps.toList.headD 0)).isSome
def miss (ns : List (Nat × Nat)) (ss : List Str) : Option Str := ss.find? fun s => !kn ns s
theorem lett_mem {ns : List (Nat × Nat)} {c : Nat} : c ∈ (lettT ns).cps.toList ↔ c ∈ ns.map (·.1) := by rw [lett_tl]
theorem lett_kn {ns : List (Nat × Nat)} {c : Nat} : decide (c ∈ (lettT ns).cps.toList) = kn ns (L1 c) := by
  rw [Bool.eq_iff_iff, decide_eq_true_eq, lett_mem]
  show _ ↔ (look ns c).isSome = true
  rw [look_some, List.mem_map]
def spCK (CU : Addr) : Sp := fun vs H Q E => ∃ (p : Addr) (ns : List (Nat × Nat)) (ss : List Str), vs = [.ref p, .str (lettT ns)] ∧ H p = some (.lst (ss.map V.str)) ∧ (∀ s ∈ ss, ∃ c, s = L1 c) ∧ (miss ns ss = none → ∀ H', Same H H' → Q .non H') ∧ (∀ s, miss ns ss = some s → Err H E CU (.str s))
def ckP (H : Hp) (p : Addr) (ns : List (Nat × Nat)) (ss : List Str) (i : Nat) : L2.St → Hp → Prop := fun σ H' => Same H H' ∧ miss ns (ss.take i) = none ∧ ∃ y, σ = [some (.ref p), some (.str (lettT ns)), y]
theorem sc_ck : FnScope ["letters", "known", "letter"] ["letters", "known"] (defScope (top 37)) := ⟨rfl, rfl, rfl, by decide +kernel, rfl, by decide +kernel, by decide +kernel⟩
theorem ok_ck {f CU fI : Addr} {fd fdI : FuncData} (T : Th mg) (R : ErU K mg CU fI fdI) (F : FD K "check_known" (top 37) f fd) : FnOk P w K mg base (L2.CX P w) 3 f fd ["letters", "known"] (spCK CU) := by
  refine F.ok sc_ck (fun vs H Q E h => ?_) (fun cdv A outer s H vs Q E hr h => ?_)
  · obtain ⟨_, _, _, rfl, _⟩ := h
    rfl
  · obtain ⟨p, ns, ss, rfl, hp, hl, k1, k2⟩ := h
    have nd := sc_ck.nd
    refine ⟨_, (pss_one (ps_for (passes_of rfl) rfl (pi_list (pv 0)) (pg_name (i := 2) nd rfl (Or.inl rfl)) (pss_one (ps_if (pt_cmpR op_notIn_sign (pv 2) (pv 1) rfl) (pss_one (ps_raiseE rfl R hr (takes_of rfl rfl rfl rfl) (pv 2) mono_var)) pss_nil)))), ?_⟩
    walk_at "rd"
    refine ⟨⟨_, SqL.of hp⟩, for_l (K := K) (a := p) (xs := ss.map V.str) (ckP H p ns ss) ⟨Same.refl _, rfl, _, rfl⟩ (fun i σ H' _ h => SqL.of (h.1 _ _ hp)) ?_ ?_⟩
    · rintro i y σ H' hi ⟨hs, hm, z, rfl⟩
      obtain ⟨s, hs2, rfl⟩ := map_at hi
      obtain ⟨c, rfl⟩ := hl s (List.mem_of_getElem? hs2)
      have et : ss.take (i + 1) = ss.take i ++ [L1 c] := by rw [List.take_succ, hs2]; rfl
      walk_at "rd"
      have ekn : c ∈ (lettT ns).cps.toList ↔ kn ns (L1 c) = true := by rw [← lett_kn, decide_eq_true_eq]
      refine ⟨c, rfl, ?_⟩
      cases ek : kn ns (L1 c) with
      | true =>
        rw [if_neg (fun z => z (ekn.mpr ek))]
        refine ⟨hs, ?_, _, rfl⟩
        unfold miss at hm ⊢
        rw [et, List.find?_append, hm]
        simp [ek]
      | false =>
        rw [if_pos (fun z => by rw [ekn.mp z] at ek; cases ek)]
        refine fun dd hdd => k2 (L1 c) ?_ dd H' hs hdd
        have e2 : ss = ss.take (i + 1) ++ ss.drop (i + 1) := (List.take_append_drop _ _).symm
        unfold miss at hm ⊢
        rw [e2, et, List.find?_append, List.find?_append, hm]
        simp [ek]
    · rintro σ H' ⟨hs, hm, z, rfl⟩
      rw [List.length_map, List.take_length] at hm
      walk_at "rd"
      exact k1 hm H' hs
def spHf (K : PySem.W.Frag) (C CH : Addr) : Sp := fun vs H Q _ => ∃ (r : Addr) (ns cs : List (Nat × Nat)), vs = [.ref r, .str ""] ∧ StA K C H r ns cs ∧ ∀ h H', Same H H' → H h = none → K39S.HpF CH H H' h ns cs → Q (.ref h) H'
theorem sc_hf : FnScope ["store", "helpers", "found", "letter"] ["store", "helpers"] (defScope (top 29)) := ⟨rfl, rfl, rfl, by decide +kernel, rfl, by decide +kernel, by decide +kernel⟩
structure HpK (K : PySem.W.Frag) (mg : Str → Option Value) (C f : Addr) : Prop where
  mkr : Mk K C f
  g : mg "Heap" = some (.ref C)
theorem ok_hf {f C CH fi : Addr} {fd fdI : FuncData} (T : Th mg) (W : StB K C) (HL : HpK K mg CH fi) (F_hin : FnOk P w K mg base CX0 1 fi fdI ["self", "names", "cells"] (K39S.spHI K CH)) (b_hin : Binds K fdI ["self", "names", "cells"] []) (F : FD K "heap_of" (top 29) f fd) : FnOk P w K mg base CX0 3 f fd ["store", "helpers"] (spHf K C CH) := by
  refine F.ok sc_hf (fun vs H Q E h => ?_) (fun cdv A outer s H vs Q E hr h => ?_)
  · obtain ⟨_, _, _, rfl, _⟩ := h
    rfl
  · obtain ⟨r, ns, cs, rfl, hst, k⟩ := h
    have nd := sc_hf.nd
    obtain ⟨tE, hEND⟩ := T.en
    obtain ⟨dx, an, ac, dp, da, hr0, hn, hc, hpd, ha, okn, okc⟩ := id hst
    obtain ⟨fn, fc, fp, fa, fl⟩ := K39S.StA.fa W hr0
    refine ⟨_, (pss_cons (ps_set (i := 2) nd rfl (Or.inl rfl) (pe_make HL.mkr F_hin (hr.mono (by omega)) rfl HL.g b_hin .nil pass0 (pa_cons (Ob.pe_fldK (K := K) rfl (pv 0) rfl) (pa_cons (Ob.pe_fldK (K := K) rfl (pv 0) rfl) pa_nil))))
        (pss_cons (ps_for (passes_of rfl) rfl (pi_str (pv 1)) (pg_name (i := 3) nd rfl (Or.inl rfl)) (pss_one (ps_dput (hu_of hr) (Ob.pe_fldK (K := K) rfl (pv 2) rfl) (pv 3) (pe_glob (v := .int 0) rfl hEND ⟨_, rfl⟩) rfl)))
        (pss_one (ps_ret (pv 2))))), ?_⟩
    refine sq fun U hU => ?_
    walk_at "rd"
    refine ⟨_, fn, _, fc, fun x dx2 hx hdx hne => ?_⟩
    have hn2 := K39S.PrsAt.make (o := .own x) (o2 := .ins CH dx2 []) hx hdx hn
    have hc2 := K39S.PrsAt.make (o := .own x) (o2 := .ins CH dx2 []) hx hdx hc
    refine ⟨x, dx2, an, ac, ns, cs, rfl, upd_same, hn2, hc2, okn, okc, fun H4 b4 st => ⟨rfl, hU _ _ ?_⟩⟩
    clear hU
    have s4 := K39S.make_same hx hdx b4
    refine sq fun U hU => ?_
    walk_at "rd"
    refine De.for_s (fun _ σ H' => σ = [some (.ref r), some (.str (Str.ofString "")), some (.ref x), none] ∧ H' = H4) ⟨rfl, rfl⟩ (fun i c σ H' hc _ => by
      have e : (Str.ofString "").cps.toList = [] := by decide +kernel
      rw [e] at hc
      cases hc) ?_
    rintro σ H' ⟨rfl, rfl⟩
    refine hU _ _ ?_
    clear hU
    walk_at "rd"
    obtain ⟨dx', d1, d2, d3, d4, g1, g2, g3, g4, g5, g6, e8, e9, e10, e11⟩ := st
    have back : ∀ d, upd (upd H dx2 (.own x)) x (.ins CH dx2 []) d = none → H d = none := fun d z => by
      by_cases c1 : d = x
      · rw [c1]; exact hx
      · rw [upd_ne c1] at z
        by_cases c2 : d = dx2
        · rw [c2]; exact hdx
        · rw [upd_ne c2] at z; exact z
    exact k x _ s4 hx ⟨dx', d1, d2, d3, d4, g1, g2, g3, g4, g5, g6, back _ e8, back _ e9, back _ e10, back _ e11⟩
theorem let_L1 {s : Str} (h : isLetterS s = true) : ∃ c, s = L1 c := by
  obtain ⟨⟨l⟩⟩ := s
  unfold isLetterS at h
  match l, h with
  | [c], _ => exact ⟨c, rfl⟩
end
end K39

set_option Elab.async false
set_option linter.all false
set_option maxRecDepth 100000
set_option maxHeartbeats 4000000
namespace K39
open PySem PySem.Spec PyProof.Rows L2 Rd Dt Dq Pk Ln En Sx Sy So Sr Lk TL
open K39S (StA StB StM LSt HpA HpB spMade spTxt map_at kit_self sorted_names keys_n keys_c get_n get_d DcOk asc_nodup nuP nuP_step vN)
local macro_rules | `(tactic| walk_at "rd") => `(tactic| try simp only [↓De.tFor_str, ↓Lk.tLockE_, ↓Lk.tLock_, ↓Lk.tLc_keys, ↓Lk.tFor_keys, ↓Sy.tTupP_, ↓Sy.rTupP_, ↓Sy.rCatP_, ↓Sy.rSlP_, ↓Sy.rDictT_, ↓Sy.tDGet_, ↓Sy.tDGet1_, ↓Sy.tDIn_, ↓Sy.tDNotIn_, ↓Sy.tMeth_, ↓Sy.tMethKw_, ↓Sy.rSortedS_, ↓Sx.rIsT_, ↓En.tFor_enumT, ↓Sy.tFor_enumL, ↓Rv.tMakeKw_, ↓Prp.tProp_, ↓Lo.tBits_, ↓Lo.tJs_n, ↓Lo.tJs_c, ↓Lo.tFmt_, ↓Lo.gFld_, ↓Lo.tMake_, ↓Lo.rOwn_, ↓Rg.tFor_range3, ↓Rg.tLc_range3, ↓Rg.tLstC_, ↓Rg.tLc_rngV, ↓Le.rNeLE_, ↓Le.rEqLE_, ↓Ls.tLc_str, ↓Ls.sDPut_, ↓Rl.rReprL_, ↓Rl.tCallKS_, ↓Ob.tFld_, ↓Ob.sFld_, ↓tVar_, ↓tC_, ↓tM1, ↓tDNewK_, ↓tOp_, ↓tUn_, ↓rI_, ↓rI0_, ↓rU_, ↓eq_ii, ↓ne_ii, ↓eq_ss, ↓ne_ss, ↓eq_bb, ↓ne_bb, ↓tAndV_, ↓tOrV_, ↓tNotV_, ↓tIf_, ↓tTest_, ↓tB_, ↓tAnd_, ↓tOr_, ↓tNot_, ↓tChain_, ↓tNil_, ↓tCons_, ↓tTup_, ↓tLst_, ↓tCB_, ↓tCall_, ↓tSeq_, ↓tNext_, ↓tRet_, ↓tRetN_, ↓tDrop_, ↓tBreak_, ↓tNever_, ↓tIfS_, ↓tAsg_, ↓gName_, ↓gTup_, ↓gCons_, ↓gNil_, ↓gSub_, ↓tPar_, ↓tPar3_, ↓tSl_, ↓tNoPart_, ↓tPart_, ↓tBM_, ↓tFor_range1, ↓tFor_range2, ↓tFor_list, ↓tFor_tup, L2.start, List.headD_cons, List.headD_nil, List.tail_cons, List.map_cons, List.map_nil, List.length_cons, List.length_nil, List.replicate, List.append_nil, List.nil_append, List.cons_append, List.getElem?_cons_zero, List.getElem?_cons_succ, List.set_cons_zero, List.set_cons_succ, Option.some.injEq, V.int.injEq, V.bl.injEq, V.str.injEq, V.ref.injEq, exists_eq_left, exists_eq_left', exists_eq_right, exists_eq, exists_and_left, and_true, true_and, decide_eq_true_eq, Nat.reduceAdd, Nat.reduceSub, Nat.add_zero, Nat.zero_add, List.cons.injEq, Bool.not_eq_true', decide_eq_false_iff_not, eq_self, reduceCtorEq, Bool.false_eq_true, if_true, if_false, ite_true, ite_false, and_self, ↓tLc_range1, ↓tLc_range2, ↓tLc_list, ↓tLc_tup, ↓tYes_, wipe0, wipe1, ↓tCallS_, ↓rIxL_, ↓rIxT_, ↓rSlL_, ↓rCat_, ↓rSetL_, ↓rRep_, ↓rGcd_, ↓tCallK_, ↓gUnl_, ↓tRaise_, decide_true, decide_false, not_true_eq_false, not_false_eq_true, false_and, or_false, false_or, and_false, and_assoc, exists_const, forall_const, forall_eq'])
section
variable {P : Program} {w : World} {K : PySem.W.Frag} {mg : Str → Option Value} {base : Heap}
/-! ### letters of a deed -/
def sg (c : Nat) : Str := ⟨#[c]⟩
def abcL : List Str := abc.cps.toList.map sg
def letL (ws : List Str) : List Str := abcL.filter fun c => decide (c ∈ ws)
theorem sg_inj {a b : Nat} (h : sg a = sg b) : a = b := by
  unfold sg at h
  injection h with h
  simpa using h
theorem mem_abcL {s : Str} : s ∈ abcL ↔ isLetterS s = true := by
  constructor
  · intro h
    obtain ⟨c, hc, rfl⟩ := List.mem_map.mp h
    show decide (c ∈ abc.cps.toList) = true
    exact decide_eq_true hc
  · intro h
    unfold isLetterS at h
    split at h
    · rename_i c e
      refine List.mem_map.mpr ⟨c, of_decide_eq_true h, ?_⟩
      cases s with
      | mk cs =>
        cases cs with
        | mk l =>
          have e' : l = [c] := e
          rw [e']; rfl
    · cases h
theorem END_abcL : ("END" : Str) ∉ abcL := fun h => absurd (mem_abcL.mp h) (by decide +kernel)
theorem abc_lt : abc.cps.toList.Pairwise (· < ·) := by decide +kernel
theorem letL_congr {ws vs : List Str} (e : ∀ c ∈ abcL, c ∈ ws ↔ c ∈ vs) : letL ws = letL vs := by
  unfold letL
  refine List.filter_congr fun c hc => ?_
  rw [decide_eq_decide]
  exact e c hc
theorem mem_letL {ws : List Str} {c : Str} : c ∈ letL ws ↔ c ∈ abcL ∧ c ∈ ws := by
  unfold letL
  rw [List.mem_filter, decide_eq_true_eq]
theorem letL_letter {ws : List Str} {c : Str} (h : c ∈ letL ws) : isLetterS c = true := mem_abcL.mp (mem_letL.mp h).1
def hd1 (s : Str) : Nat := s.cps.toList.headD 0
theorem rise_hd : ∀ (ss : List Str) (p : Str), (∀ s ∈ p :: ss, s.cps.toList ≠ []) → risingS p ss = true → (p :: ss).Pairwise (fun a b => hd1 a ≤ hd1 b)
  | [], p, _, _ => List.pairwise_singleton _ _
  | c :: cs, p, hn, h => by
    rw [risingS, Bool.and_eq_true] at h
    have ih := rise_hd cs c (fun s hs => hn s (List.mem_cons_of_mem _ hs)) h.2
    have h1 : hd1 p ≤ hd1 c := by
      have h0 := h.1
      have n1 := hn p (List.mem_cons_self ..)
      have n2 := hn c (List.mem_cons_of_mem _ (List.mem_cons_self ..))
      unfold hd1
      cases e1 : p.cps.toList with
      | nil => exact absurd e1 n1
      | cons x xs =>
        cases e2 : c.cps.toList with
        | nil => exact absurd e2 n2
        | cons y ys =>
          rw [e1, e2] at h0
          have e : ltCps (y :: ys) (x :: xs) = (decide (y < x) || ((y == x) && ltCps ys xs)) := rfl
          rw [e] at h0
          have : ¬ y < x := fun z => by rw [decide_eq_true z] at h0; cases h0
          show x ≤ y
          omega
    refine List.pairwise_cons.mpr ⟨fun x hx => ?_, ih⟩
    rcases List.mem_cons.mp hx with rfl | hx
    · exact h1
    · exact Nat.le_trans h1 ((List.pairwise_cons.mp ih).1 x hx)
theorem sort_hd {ss : List Str} (hn : ∀ s ∈ ss, s.cps.toList ≠ []) (h : sortedS ss = true) : ss.Pairwise (fun a b => hd1 a ≤ hd1 b) := by
  cases ss with
  | nil => exact .nil
  | cons x r => exact rise_hd r x hn h
theorem heads {A B : List Str} (pA : A.Pairwise (fun a b => hd1 a ≤ hd1 b)) (pB : B.Pairwise (fun a b => hd1 a ≤ hd1 b)) (m : ∀ s, s ∈ A ↔ s ∈ B) (inj : ∀ a ∈ A, ∀ b ∈ A, hd1 a = hd1 b → a = b) : A.head? = B.head? := by
  cases A with
  | nil =>
    cases B with
    | nil => rfl
    | cons b B => exact absurd ((m b).mpr (List.mem_cons_self ..)) (by simp)
  | cons a A =>
    cases B with
    | nil => exact absurd ((m a).mp (List.mem_cons_self ..)) (by simp)
    | cons b B =>
      have hb := (m b).mpr (List.mem_cons_self ..)
      have ha := (m a).mp (List.mem_cons_self ..)
      have h1 : hd1 a ≤ hd1 b := by
        rcases List.mem_cons.mp hb with rfl | hb
        · exact Nat.le_refl _
        · exact (List.pairwise_cons.mp pA).1 b hb
      have h2 : hd1 b ≤ hd1 a := by
        rcases List.mem_cons.mp ha with rfl | ha
        · exact Nat.le_refl _
        · exact (List.pairwise_cons.mp pB).1 a ha
      show some a = some b
      rw [inj a (List.mem_cons_self ..) b hb (Nat.le_antisymm h1 h2)]
def lack (ns : List (Nat × Nat)) (s : Str) : Bool := decide (s ≠ "END") && !kn ns s
theorem goal_cases {s : Str} (h : isGoal (.str s) = true) : s = "END" ∨ isLetterS s = true := by
  have z : (isLetterS s || decide (s = "END")) = true := h
  rw [Bool.or_eq_true, decide_eq_true_eq] at z
  exact z.symm
theorem lack_head {ns : List (Nat × Nat)} {ss ys : List Str} (hg : ∀ s ∈ ss, isGoal (.str s) = true) (p : ys.Perm ss) (h : sortedS ys = true) : (ys.filter (lack ns)).head? = miss ns (letL ss) := by
  have hg' : ∀ s ∈ ys, s = "END" ∨ ∃ c, s = L1 c := fun s hs => by
    rcases goal_cases (hg s (p.mem_iff.mp hs)) with z | z
    · exact .inl z
    · exact .inr (let_L1 z)
  unfold miss
  rw [← List.head?_filter]
  refine heads ((sort_hd (fun s hs => ?_) h).sublist List.filter_sublist) ?_ (fun s => ?_) fun a ha b hb e => ?_
  · rcases hg' s hs with rfl | ⟨c, rfl⟩
    · decide +kernel
    · exact fun z => by cases z
  · refine List.Pairwise.sublist List.filter_sublist (?_ : (letL ss).Pairwise _)
    unfold letL
    refine List.Pairwise.sublist List.filter_sublist ?_
    unfold abcL
    rw [List.pairwise_map]
    exact abc_lt.imp fun {a b} q => Nat.le_of_lt q
  · rw [List.mem_filter, List.mem_filter, mem_letL, mem_abcL, p.mem_iff]
    unfold lack
    rw [Bool.and_eq_true, decide_eq_true_eq]
    constructor
    · rintro ⟨h1, h2, h3⟩
      exact ⟨⟨(goal_cases (hg s h1)).resolve_left h2, h1⟩, h3⟩
    · rintro ⟨⟨h1, h2⟩, h3⟩
      exact ⟨h2, fun z => by rw [z] at h1; revert h1; decide, h3⟩
  · have f : ∀ s ∈ ys.filter (lack ns), ∃ c, s = L1 c := fun s hs => by
      obtain ⟨h1, h2⟩ := List.mem_filter.mp hs
      unfold lack at h2
      rw [Bool.and_eq_true, decide_eq_true_eq] at h2
      exact (hg' s h1).resolve_left h2.1
    obtain ⟨c, rfl⟩ := f a ha
    obtain ⟨d, rfl⟩ := f b hb
    have : c = d := e
    rw [this]

def DeedL : Dd.Deed → Prop
  | .copy a b => isLetterS a = true ∧ isGoal (.str b) = true
  | .tie a b => isLetterS a = true ∧ isGoal (.str b) = true
  | .next a b => isLetterS a = true ∧ isLetterS b = true
  | .new a => isLetterS a = true
  | .drop a => isLetterS a = true
theorem let_goal {s : Str} (h : isLetterS s = true) : isGoal (.str s) = true := by
  show (isLetterS s || decide (s = "END")) = true
  rw [h]
  rfl
theorem DeedL.goal {d : Dd.Deed} (h : DeedL d) : ∀ s ∈ d.words, isGoal (.str s) = true := by
  cases d with
  | copy a b =>
    rintro s (_ | ⟨_, _ | ⟨_, ⟨⟩⟩⟩)
    · exact let_goal h.1
    · exact h.2
  | tie a b =>
    rintro s (_ | ⟨_, _ | ⟨_, ⟨⟩⟩⟩)
    · exact let_goal h.1
    · exact h.2
  | next a b =>
    rintro s (_ | ⟨_, _ | ⟨_, ⟨⟩⟩⟩)
    · exact let_goal h.1
    · exact let_goal h.2
  | new a =>
    rintro s (_ | ⟨_, ⟨⟩⟩)
    exact let_goal h
  | drop a =>
    rintro s (_ | ⟨_, ⟨⟩⟩)
    exact let_goal h
theorem deed_of {d : PyData} (h : isDeed d = true) : ∃ dd : Dd.Deed, d = dd.data ∧ DeedL dd := by
  rcases deed_cases h with ⟨k, a, rfl, ha, rfl | rfl⟩ | ⟨k, a, b, rfl, ha, ⟨rfl, hb⟩ | ⟨rfl | rfl, hb⟩⟩
  · exact ⟨.new a, rfl, ha⟩
  · exact ⟨.drop a, rfl, ha⟩
  · exact ⟨.next a b, rfl, ha, hb⟩
  · exact ⟨.copy a b, rfl, ha, hb⟩
  · exact ⟨.tie a b, rfl, ha, hb⟩
theorem dq_strs {H : Hp} : ∀ {xs : List V} {l : List Str}, DqAll K H xs (l.map .str) → xs = l.map .str
  | _, [], h => by cases h; rfl
  | _, s :: l, h => by
    cases h with
    | cons h1 h2 =>
      cases h1
      rw [dq_strs h2]
      rfl
theorem dq_deed {H : Hp} {x : V} {d : Dd.Deed} (h : Dq K H x d.data) : ∃ b, x = .ref b ∧ H b = some (.tup (d.row.map V.str)) := by
  rw [d.data_row] at h
  cases h with
  | tup e h2 =>
    rw [dq_strs h2] at e
    exact ⟨_, rfl, e⟩
theorem known_of {ns : List (Nat × Nat)} {ss : List Str} (hg : ∀ s ∈ ss, isGoal (.str s) = true) (hm : miss ns (letL ss) = none) : ∀ s ∈ ss, (isLetterS s = true → KnL ns s) ∧ KnW ns s := fun s hs => by
  have key : isLetterS s = true → KnL ns s := fun hl => by
    have hm3 : s ∈ letL ss := mem_letL.mpr ⟨mem_abcL.mpr hl, hs⟩
    have := List.find?_eq_none.mp hm s hm3
    obtain ⟨c, rfl⟩ := let_L1 hl
    refine ⟨c, rfl, ?_⟩
    have z : (!kn ns (L1 c)) ≠ true := this
    have z2 : kn ns (L1 c) = true := by simpa using z
    exact z2
  exact ⟨key, (goal_cases (hg s hs)).imp id key⟩
theorem DeedL.known {ns : List (Nat × Nat)} {d : Dd.Deed} (h : DeedL d) (hm : miss ns (letL d.words) = none) : DeedK ns d := by
  have k := known_of h.goal hm
  cases d with
  | copy a b => exact ⟨(k a (by simp [Dd.Deed.words, Dd.Deed.row])).1 h.1, (k b (by simp [Dd.Deed.words, Dd.Deed.row])).2⟩
  | tie a b => exact ⟨(k a (by simp [Dd.Deed.words, Dd.Deed.row])).1 h.1, (k b (by simp [Dd.Deed.words, Dd.Deed.row])).2⟩
  | next a b => exact ⟨(k a (by simp [Dd.Deed.words, Dd.Deed.row])).1 h.1, (k b (by simp [Dd.Deed.words, Dd.Deed.row])).1 h.2⟩
  | new a => exact (k a (by simp [Dd.Deed.words, Dd.Deed.row])).1 h
  | drop a => exact (k a (by simp [Dd.Deed.words, Dd.Deed.row])).1 h
theorem miss_sorted {ns : List (Nat × Nat)} {ss ys : List Str} (hg : ∀ s ∈ ss, isGoal (.str s) = true) (p : ys.Perm (ss.filter fun s => decide (s ≠ ("END" : Str)))) (h : sortedS ys = true) : miss ns ys = miss ns (letL ss) := by
  have hg2 : ∀ s ∈ ss.filter fun s => decide (s ≠ ("END" : Str)), isGoal (.str s) = true := fun s hs => hg s (List.mem_filter.mp hs).1
  have e1 := lack_head (ns := ns) hg2 p h
  have e2 : letL (ss.filter fun s => decide (s ≠ ("END" : Str))) = letL ss := letL_congr fun c hc => by
    rw [List.mem_filter, decide_eq_true_eq]
    exact ⟨fun z => z.1, fun z => ⟨z, fun e => END_abcL (by rw [← e]; exact hc)⟩⟩
  rw [e2] at e1
  rw [← e1, List.head?_filter]
  unfold miss
  have : ∀ l : List Str, (∀ s ∈ l, s ≠ "END") → l.find? (fun s => !kn ns s) = l.find? (lack ns) := fun l => by
    induction l with
    | nil => intro _; rfl
    | cons a r ih =>
      intro hl
      have ha := hl a (List.mem_cons_self ..)
      have e : lack ns a = !kn ns a := by
        unfold lack
        rw [decide_eq_true ha]
        rfl
      rw [List.find?_cons, List.find?_cons, e, ih fun s hs => hl s (List.mem_cons_of_mem _ hs)]
  exact this ys fun s hs => of_decide_eq_true (List.mem_filter.mp (p.mem_iff.mp hs)).2
end
end K39

set_option Elab.async false
set_option linter.all false
set_option maxRecDepth 100000
set_option maxHeartbeats 4000000
namespace K39
open PySem PySem.Spec PyProof.Rows L2 Rd Dt Dq Pk Ln En Sx Sy So Sr Lk TL
open K39S (StA StB StM LSt HpA HpB spMade spTxt map_at kit_self sorted_names keys_n keys_c get_n get_d DcOk asc_nodup nuP nuP_step vN)
local macro_rules | `(tactic| walk_at "rd") => `(tactic| try simp only [↓De.tFor_str, ↓Lk.tLockE_, ↓Lk.tLock_, ↓Lk.tLc_keys, ↓Lk.tFor_keys, ↓Sy.tTupP_, ↓Sy.rTupP_, ↓Sy.rCatP_, ↓Sy.rSlP_, ↓Sy.rDictT_, ↓Sy.tDGet_, ↓Sy.tDGet1_, ↓Sy.tDIn_, ↓Sy.tDNotIn_, ↓Sy.tMeth_, ↓Sy.tMethKw_, ↓Sy.rSortedS_, ↓Sx.rIsT_, ↓En.tFor_enumT, ↓Sy.tFor_enumL, ↓Rv.tMakeKw_, ↓Prp.tProp_, ↓Lo.tBits_, ↓Lo.tJs_n, ↓Lo.tJs_c, ↓Lo.tFmt_, ↓Lo.gFld_, ↓Lo.tMake_, ↓Lo.rOwn_, ↓Rg.tFor_range3, ↓Rg.tLc_range3, ↓Rg.tLstC_, ↓Rg.tLc_rngV, ↓Le.rNeLE_, ↓Le.rEqLE_, ↓Ls.tLc_str, ↓Ls.sDPut_, ↓Rl.rReprL_, ↓Rl.tCallKS_, ↓Ob.tFld_, ↓Ob.sFld_, ↓tVar_, ↓tC_, ↓tM1, ↓tDNewK_, ↓tOp_, ↓tUn_, ↓rI_, ↓rI0_, ↓rU_, ↓eq_ii, ↓ne_ii, ↓eq_ss, ↓ne_ss, ↓eq_bb, ↓ne_bb, ↓tAndV_, ↓tOrV_, ↓tNotV_, ↓tIf_, ↓tTest_, ↓tB_, ↓tAnd_, ↓tOr_, ↓tNot_, ↓tChain_, ↓tNil_, ↓tCons_, ↓tTup_, ↓tLst_, ↓tCB_, ↓tCall_, ↓tSeq_, ↓tNext_, ↓tRet_, ↓tRetN_, ↓tDrop_, ↓tBreak_, ↓tNever_, ↓tIfS_, ↓tAsg_, ↓gName_, ↓gTup_, ↓gCons_, ↓gNil_, ↓gSub_, ↓tPar_, ↓tPar3_, ↓tSl_, ↓tNoPart_, ↓tPart_, ↓tBM_, ↓tFor_range1, ↓tFor_range2, ↓tFor_list, ↓tFor_tup, L2.start, List.headD_cons, List.headD_nil, List.tail_cons, List.map_cons, List.map_nil, List.length_cons, List.length_nil, List.replicate, List.append_nil, List.nil_append, List.cons_append, List.getElem?_cons_zero, List.getElem?_cons_succ, List.set_cons_zero, List.set_cons_succ, Option.some.injEq, V.int.injEq, V.bl.injEq, V.str.injEq, V.ref.injEq, exists_eq_left, exists_eq_left', exists_eq_right, exists_eq, exists_and_left, and_true, true_and, decide_eq_true_eq, Nat.reduceAdd, Nat.reduceSub, Nat.add_zero, Nat.zero_add, List.cons.injEq, Bool.not_eq_true', decide_eq_false_iff_not, eq_self, reduceCtorEq, Bool.false_eq_true, if_true, if_false, ite_true, ite_false, and_self, ↓tLc_range1, ↓tLc_range2, ↓tLc_list, ↓tLc_tup, ↓tYes_, wipe0, wipe1, ↓tCallS_, ↓rIxL_, ↓rIxT_, ↓rSlL_, ↓rCat_, ↓rSetL_, ↓rRep_, ↓rGcd_, ↓tCallK_, ↓gUnl_, ↓tRaise_, decide_true, decide_false, not_true_eq_false, not_false_eq_true, false_and, or_false, false_or, and_false, and_assoc, exists_const, forall_const, forall_eq'])
section
variable {P : Program} {w : World} {K : PySem.W.Frag} {mg : Str → Option Value} {base : Heap}
/-! ### one deed on a store -/
theorem Err.up {H H1 : Hp} {E : XK} {C : Addr} {x : V} (h : Err H E C x) (s : Same H H1) : Err H1 E C x := fun dd H' s' hd => h dd H' (s.trans s') hd
abbrev ErD (K : PySem.W.Frag) (mg : Str → Option Value) := Er K mg "InvalidDeed" "given"
abbrev ErM (K : PySem.W.Frag) (mg : Str → Option Value) := Er K mg "TooMany" "given"
abbrev ErF (K : PySem.W.Frag) (mg : Str → Option Value) := Er K mg "Failed" "given"
def spCR (K : PySem.W.Frag) (C CM : Addr) : Sp := fun vs H Q E => ∃ (r : Addr) (ns cs : List (Nat × Nat)), vs = [.ref r] ∧ StA K C H r ns cs ∧ (cs.length ≤ 100 → Q .non H) ∧ (100 < cs.length → Err H E CM (.int (cs.length : Nat)))
theorem sc_cr : FnScope ["store"] ["store"] (defScope (top 36)) := ⟨rfl, rfl, rfl, by decide +kernel, rfl, by decide +kernel, by decide +kernel⟩
theorem ok_cr {f C CM fI : Addr} {fd fdI : FuncData} (T : Th mg) (W : StB K C) (R : ErM K mg CM fI fdI) (F : FD K "check_run_cells" (top 36) f fd) : FnOk P w K mg base (L2.CX P w) 3 f fd ["store"] (spCR K C CM) := by
  refine F.ok sc_cr (fun vs H Q E h => ?_) (fun cdv A outer s H vs Q E hr h => ?_)
  · obtain ⟨_, _, _, rfl, _⟩ := h
    rfl
  · obtain ⟨r, ns, cs, rfl, hst, k0, k1⟩ := h
    have nd := sc_cr.nd
    obtain ⟨tR, hMOST_RUN_CELLS⟩ := T.mrc
    obtain ⟨dx, an, ac, dp, da, hr0, hn, hc, hpd, ha, okn, okc⟩ := id hst
    obtain ⟨fn, fc, fp, fa, fl⟩ := K39S.StA.fa W hr0
    refine ⟨_, (pss_one (ps_if (pt_cmpR op_gt (pe_callB call_len_seq (by rfl) T.b_len PySem.boot_len (pa_cons (Ob.pe_fldK (K := K) rfl (pv 0) rfl) pa_nil)) (pe_glob (v := .int 100) rfl hMOST_RUN_CELLS ⟨_, rfl⟩) (nomark _)) (pss_one (ps_raiseE rfl R hr (takes_of rfl rfl rfl rfl) (pe_callB call_len_seq (by rfl) T.b_len PySem.boot_len (pa_cons (Ob.pe_fldK (K := K) rfl (pv 0) rfl) pa_nil)) (fun _ _ _ _ f h => Si.mono_fld _ _ _ _ (fun _ _ ⟨p, ys, e, hs, q⟩ => ⟨p, ys, e, hs, f _ _ q⟩) h))) pss_nil)), ?_⟩
    walk_at "rd"
    obtain ⟨xs, pl, prs⟩ := id hc
    have lx : xs.length = cs.length := by
      have := prs.len
      rwa [List.length_map] at this
    refine ⟨_, fc, ac, rfl, xs, .inr pl.sqt, ?_⟩
    by_cases c : 100 < cs.length
    · rw [if_pos (by rw [lx]; omega)]
      refine ⟨_, fc, ac, rfl, xs, .inr pl.sqt, ?_⟩
      rw [lx]
      exact fun dd hdd => k1 c dd H (Same.refl _) hdd
    · rw [if_neg (by rw [lx]; omega)]
      exact k0 (by omega)
theorem slT {H : Hp} {Q : VK} {a : Addr} {xs : List V} {k : Nat} (e : H a = some (.tup xs)) (h1 : 1 ≤ k) (h2 : k ≤ xs.length) (q : ∀ p, H p = none → Q (.ref p) (upd H p (.tup (xs.drop k)))) : rSlT K (.ref a) (some (k : Int)) none H Q := by
  have hs : HT.sIx xs.length 0 (some (k : Int)) = k := by
    rw [HT.sIx_nat]
    omega
  refine ⟨a, xs, rfl, SqT.of e, by rw [hs]; exact fun z => absurd z.1 (by omega), fun p hp => ?_⟩
  have hc : cutV xs (some (k : Int)) none = xs.drop k := by
    unfold cutV
    rw [hs]
    show (xs.drop k).take (xs.length - k) = _
    exact List.take_of_length_le (by rw [List.length_drop]; exact Nat.le_refl _)
  rw [hc]
  exact q p hp
def fsP (H : Hp) (t : Str → Bool) (ss : List Str) (D : Addr) (j : Nat) (H' : Hp) : Prop := Same H H' ∧ H' D = some (.lst (((ss.take j).filter t).map V.str))
theorem words_len (d : Dd.Deed) : d.words.length ≤ 2 := by cases d <;> simp [Dd.Deed.words, Dd.Deed.row]
theorem words_cut (d : Dd.Deed) : (d.row.map V.str).drop 1 = d.words.map V.str := by cases d <;> rfl
theorem row_len (d : Dd.Deed) : 1 ≤ (d.row.map V.str).length := by cases d <;> simp [Dd.Deed.row]
def spCD (K : PySem.W.Frag) (CD CU : Addr) : Sp := fun vs H Q E => ∃ (x : V) (d : PyData) (ns : List (Nat × Nat)), vs = [x, .str (lettT ns)] ∧ Dq K H x d ∧ (isDeed d = false → Err H E CD x) ∧
  (∀ dd : Dd.Deed, d = dd.data → DeedL dd → (∀ s, miss ns (letL dd.words) = some s → Err H E CU (.str s)) ∧ (miss ns (letL dd.words) = none → ∀ H', Same H H' → Q .non H'))
theorem sc_cd : FnScope ["deed", "known", "word"] ["deed", "known"] (defScope (top 38)) := ⟨rfl, rfl, rfl, by decide +kernel, rfl, by decide +kernel, by decide +kernel⟩
theorem ok_cd {f CD CU fI : Addr} {fd fdI : FuncData} (T : Th mg) (R : ErD K mg CD fI fdI) (F : FD K "check_deed" (top 38) f fd) {f1 f2 : Addr} {fd1 fd2 : FuncData} (C1 : Cal P w K mg base CX0 3 "is_deed" ["value"] (spData isDeed K) f1 fd1)
    (C2 : Cal P w K mg base (L2.CX P w) 3 "check_known" ["letters", "known"] (spCK CU) f2 fd2) : FnOk P w K mg base (L2.CX P w) 4 f fd ["deed", "known"] (spCD K CD CU) := by
  obtain ⟨gis_deed, kis_deed, bis_deed, Fis_deed⟩ := C1
  obtain ⟨gcheck_known, kcheck_known, bcheck_known, Fcheck_known⟩ := C2
  refine F.ok sc_cd (fun vs H Q E h => ?_) (fun cdv A outer s H vs Q E hr h => ?_)
  · obtain ⟨_, _, _, rfl, _⟩ := h
    rfl
  · obtain ⟨x, d, ns, rfl, hx, k0, k1⟩ := h
    have nd := sc_cd.nd
    refine ⟨_, (pss_cons (ps_if (pt_not (pt_val (pe_call Fis_deed (hr.mono (by omega)) rfl gis_deed kis_deed bis_deed .nil pass0 (pa_cons (pv 0) pa_nil)))) (pss_one (ps_raiseE rfl R hr (takes_of rfl rfl rfl rfl) (pv 0) mono_var)) pss_nil)
        (pss_one (ps_expr (pe_call Fcheck_known (hr.mono (by omega)) rfl gcheck_known kcheck_known bcheck_known .nil (passes_call (takes_of rfl rfl rfl rfl) (fun _ _ _ _ z => z)) (pa_cons (pe_callB cr_sortedS (by rfl) T.b_sorted (by decide +kernel) (pa_cons (pe_lc (own := [("word", 2)]) rfl nd (pi_tup (pe_slice (r := rSlT K) sl_tup (pv 0) (po_some pe_int) po_none)) (blkOk_by (N := ["deed", "known", "word"]) (sc := defScope (top 38)) (by decide +kernel)) (fun _ _ _ _ _ => (pg_name (i := 2) nd rfl (Or.inl rfl))) (fun _ _ _ _ _ => (pts_one (pt_cmpR op_ne (pv 2) pe_str (nomark _)))) (fun _ _ _ _ _ => (pv 2))) pa_nil)) (pa_cons (pv 1) pa_nil)))))), ?_⟩
    refine sq fun U hU => ?_
    walk_at "rd"
    refine ⟨x, d, rfl, hx, fun H1 s1 => ?_⟩
    cases ed : isDeed d with
    | false => exact ⟨false, rfl, fun dd hdd => k0 ed dd H1 s1 hdd⟩
    | true =>
      refine ⟨true, rfl, ?_⟩
      rw [if_neg (by decide)]
      refine hU _ _ ?_
      clear hU
      obtain ⟨dd, rfl, hL⟩ := deed_of ed
      obtain ⟨m1, m2⟩ := k1 dd rfl hL
      obtain ⟨b, rfl, hb⟩ := dq_deed hx
      walk_at "rd"
      refine slT (s1 _ _ hb) (k := 1) (by decide) (row_len dd) fun p hp => ?_
      rw [words_cut]
      have s2 : Same H1 (upd H1 p (.tup (dd.words.map V.str))) := same_new hp
      have e2 : upd H1 p (.tup (dd.words.map V.str)) p = some (.tup (dd.words.map V.str)) := upd_same
      generalize upd H1 p (.tup (dd.words.map V.str)) = H2 at s2 e2 ⊢
      have zl : (1000000 : Nat) ≤ sizeLine := line_big
      have lw := words_len dd
      refine ⟨p, rfl, ⟨_, SqT.of e2⟩, lc_t (xs := dd.words.map V.str) (fsP H2 (fun s => decide (s ≠ ("END" : Str))) dd.words) fun D hD => ⟨⟨same_new hD, upd_same⟩, fun j H6 _ hP => SqT.of (hP.1 _ _ e2), ?_, ?_⟩⟩
      · rintro j y H6 hy ⟨h6, hL6⟩
        obtain ⟨s, hs, rfl⟩ := map_at hy
        have et : dd.words.take (j + 1) = dd.words.take j ++ [s] := by rw [List.take_succ, hs]; rfl
        unfold Lturn
        walk_at "rd"
        by_cases hE : s = Str.ofString "END"
        · rw [if_neg (fun z => z hE)]
          refine ⟨h6, ?_⟩
          rw [et, List.filter_append, List.filter_cons_of_neg (by simpa using hE), List.filter_nil, List.append_nil]
          exact hL6
        · rw [if_pos hE]
          refine ⟨_, hL6, ?_, fun b o eb => ?_, ?_⟩
          · rw [List.length_map]
            have := List.length_filter_le (fun s => decide (s ≠ ("END" : Str))) (dd.words.take j)
            have := List.length_take_le' j dd.words
            omega
          · rw [upd_ne (ne_of_none eb hD)]
            exact h6 _ _ eb
          · rw [upd_same, et, List.filter_append, List.filter_cons_of_pos (by simpa using hE), List.filter_nil, List.map_append]
            rfl
      · rintro H6 ⟨h6, hL6⟩
        rw [List.length_map, List.take_length] at hL6
        refine ⟨D, rfl, _, SqL.of hL6, ?_, fun ys p2 py sy hp2 => ?_⟩
        · have := List.length_filter_le (fun s => decide (s ≠ ("END" : Str))) dd.words
          omega
        · have em := miss_sorted (ns := ns) hL.goal py sy
          have s3 : Same H (upd H6 p2 (.lst (ys.map V.str))) := s1.trans (s2.trans (h6.trans (same_new hp2)))
          refine ⟨p2, ns, ys, rfl, upd_same, fun s hs => ?_, fun mn H' s' => m2 (by rw [← em]; exact mn) H' (s3.trans s'), fun s ms => (m1 s (by rw [← em]; exact ms)).up s3⟩
          obtain ⟨z1, z2⟩ := List.mem_filter.mp (py.mem_iff.mp hs)
          exact let_L1 ((goal_cases (hL.goal s z1)).resolve_left (of_decide_eq_true z2))

theorem lett_pu {ns : List (Nat × Nat)} {k v : Nat} (h : (look ns k).isSome = true) : lettT (Dd.pu ns k v) = lettT ns := by
  have hk : k ∈ ns.map (·.1) := Decidable.byContradiction fun z => by
    rw [Dd.look_none.mpr z] at h
    cases h
  have e := Dd.pu_keys ns k v
  rw [if_pos hk] at e
  have f : ∀ l : List (Nat × Nat), (l.map fun n => L1 n.1) = (l.map (·.1)).map L1 := fun l => by rw [List.map_map]; rfl
  unfold lettT
  rw [f, f, e]
theorem kn_look {ns : List (Nat × Nat)} {a : Str} (h : KnL ns a) : (look ns (Dd.hd a)).isSome = true := by
  obtain ⟨c, rfl, hc⟩ := h
  exact hc
theorem DeedK.known {ns : List (Nat × Nat)} {d : Dd.Deed} (h : DeedK ns d) : d.Known ns := by
  cases d with
  | copy a b => exact ⟨kn_look h.1, h.2.imp id kn_look⟩
  | tie a b => exact ⟨kn_look h.1, h.2.imp id kn_look⟩
  | next a b => exact ⟨kn_look h.1, .inr (kn_look h.2)⟩
  | new a => exact kn_look h
  | drop a => exact kn_look h
theorem lett_act {ns cs n1 c1 : List (Nat × Nat)} {us : List Nat} {d : Dd.Deed} {q : Nat} (h : DeedK ns d) (e : Dd.act d ns cs us = some (q, n1, c1)) : lettT n1 = lettT ns := by
  cases d with
  | copy a b => cases e; exact lett_pu (kn_look h.1)
  | new a => cases e; exact lett_pu (kn_look h)
  | next a b =>
    obtain ⟨v, hv, e⟩ := Option.map_eq_some_iff.mp e
    cases e
    exact lett_pu (kn_look h.1)
  | tie a b =>
    obtain ⟨v, hv, e⟩ := Option.map_eq_some_iff.mp e
    cases e
    rfl
  | drop a =>
    obtain ⟨v, hv, e⟩ := Option.map_eq_some_iff.mp e
    cases e
    rfl
end
end K39

set_option Elab.async false
set_option linter.all false
set_option maxRecDepth 100000
set_option maxHeartbeats 4000000
namespace K39
open PySem PySem.Spec PyProof.Rows L2 Rd Dt Dq Pk Ln En Sx Sy So Sr Lk TL
open K39S (StA StB StM LSt HpA HpB spMade spTxt map_at kit_self sorted_names keys_n keys_c get_n get_d DcOk asc_nodup nuP nuP_step vN)
local macro_rules | `(tactic| walk_at "rd") => `(tactic| try simp only [↓De.tFor_str, ↓Lk.tLockE_, ↓Lk.tLock_, ↓Lk.tLc_keys, ↓Lk.tFor_keys, ↓Sy.tTupP_, ↓Sy.rTupP_, ↓Sy.rCatP_, ↓Sy.rSlP_, ↓Sy.rDictT_, ↓Sy.tDGet_, ↓Sy.tDGet1_, ↓Sy.tDIn_, ↓Sy.tDNotIn_, ↓Sy.tMeth_, ↓Sy.tMethKw_, ↓Sy.rSortedS_, ↓Sx.rIsT_, ↓En.tFor_enumT, ↓Sy.tFor_enumL, ↓Rv.tMakeKw_, ↓Prp.tProp_, ↓Lo.tBits_, ↓Lo.tJs_n, ↓Lo.tJs_c, ↓Lo.tFmt_, ↓Lo.gFld_, ↓Lo.tMake_, ↓Lo.rOwn_, ↓Rg.tFor_range3, ↓Rg.tLc_range3, ↓Rg.tLstC_, ↓Rg.tLc_rngV, ↓Le.rNeLE_, ↓Le.rEqLE_, ↓Ls.tLc_str, ↓Ls.sDPut_, ↓Rl.rReprL_, ↓Rl.tCallKS_, ↓Ob.tFld_, ↓Ob.sFld_, ↓tVar_, ↓tC_, ↓tM1, ↓tDNewK_, ↓tOp_, ↓tUn_, ↓rI_, ↓rI0_, ↓rU_, ↓eq_ii, ↓ne_ii, ↓eq_ss, ↓ne_ss, ↓eq_bb, ↓ne_bb, ↓tAndV_, ↓tOrV_, ↓tNotV_, ↓tIf_, ↓tTest_, ↓tB_, ↓tAnd_, ↓tOr_, ↓tNot_, ↓tChain_, ↓tNil_, ↓tCons_, ↓tTup_, ↓tLst_, ↓tCB_, ↓tCall_, ↓tSeq_, ↓tNext_, ↓tRet_, ↓tRetN_, ↓tDrop_, ↓tBreak_, ↓tNever_, ↓tIfS_, ↓tAsg_, ↓gName_, ↓gTup_, ↓gCons_, ↓gNil_, ↓gSub_, ↓tPar_, ↓tPar3_, ↓tSl_, ↓tNoPart_, ↓tPart_, ↓tBM_, ↓tFor_range1, ↓tFor_range2, ↓tFor_list, ↓tFor_tup, L2.start, List.headD_cons, List.headD_nil, List.tail_cons, List.map_cons, List.map_nil, List.length_cons, List.length_nil, List.replicate, List.append_nil, List.nil_append, List.cons_append, List.getElem?_cons_zero, List.getElem?_cons_succ, List.set_cons_zero, List.set_cons_succ, Option.some.injEq, V.int.injEq, V.bl.injEq, V.str.injEq, V.ref.injEq, exists_eq_left, exists_eq_left', exists_eq_right, exists_eq, exists_and_left, and_true, true_and, decide_eq_true_eq, Nat.reduceAdd, Nat.reduceSub, Nat.add_zero, Nat.zero_add, List.cons.injEq, Bool.not_eq_true', decide_eq_false_iff_not, eq_self, reduceCtorEq, Bool.false_eq_true, if_true, if_false, ite_true, ite_false, and_self, ↓tLc_range1, ↓tLc_range2, ↓tLc_list, ↓tLc_tup, ↓tYes_, wipe0, wipe1, ↓tCallS_, ↓rIxL_, ↓rIxT_, ↓rSlL_, ↓rCat_, ↓rSetL_, ↓rRep_, ↓rGcd_, ↓tCallK_, ↓gUnl_, ↓tRaise_, decide_true, decide_false, not_true_eq_false, not_false_eq_true, false_and, or_false, false_or, and_false, and_assoc, exists_const, forall_const, forall_eq'])
section
variable {P : Program} {w : World} {K : PySem.W.Frag} {mg : Str → Option Value} {base : Heap}
/-! ### done -/
def spDone (K : PySem.W.Frag) (C CN CD CU CM CF : Addr) : Sp := fun vs H Q E => ∃ (x y : V) (d : PyData), vs = [x, y] ∧ ((∃ e, Dq K H x e ∧ Err H E CN x) ∨ (∃ (r : Addr) (ns cs : List (Nat × Nat)), x = .ref r ∧ StA K C H r ns cs ∧ Dq K H y d ∧ (isDeed d = false → Err H E CD y) ∧
  (∀ dd : Dd.Deed, d = dd.data → DeedL dd → (∀ s, miss ns (letL dd.words) = some s → Err H E CU (.str s)) ∧ (miss ns (letL dd.words) = none → (100 < cs.length → Err H E CM (.int (cs.length : Nat))) ∧
    (cs.length ≤ 100 → (Dd.act dd ns cs (cs.map (·.1)) = none → Err H E CF y) ∧ (∀ p n1 c1, Dd.act dd ns cs (cs.map (·.1)) = some (p, n1, c1) → ∀ r' H', Same H H' → StA K C H' r' n1 (srt c1) → Q (.ref r') H')))))) 
structure HpH (P : Program) (w : World) (K : PySem.W.Frag) (mg : Str → Option Value) (base : Heap) (C CS f1 f2 : Addr) (fd1 fd2 : FuncData) : Prop where
  cl : Cls K C
  don : K39S.MtC P w K mg base C "done" 3 ["self", "deed"] ["deed"] (spDn C) f1 fd1
  sto : K39S.MtC P w K mg base C "store" 7 ["self", "letters"] ["letters"] (spSr K C CS) f2 fd2
theorem sc_done : FnScope ["store", "deed", "heap"] ["store", "deed"] (defScope (top 39)) := ⟨rfl, rfl, rfl, by decide +kernel, rfl, by decide +kernel, by decide +kernel⟩
theorem ok_done {f C CH CN CD CU CM CF fI g1 g2 : Addr} {fd fdI fdg fdg2 : FuncData} (T : Th mg) (W' : StB K C) (W : HpB K CH) (M : HpH P w K mg base CH C g1 g2 fdg fdg2) (R : ErF K mg CF fI fdI) (F : FD K "done" (top 39) f fd) {f1 f2 f3 f4 : Addr} {fd1 fd2 fd3 fd4 : FuncData}
    (C1 : Cal P w K mg base (L2.CX P w) 3 "check_store" ["value"] (spChkX K C CN) f1 fd1) (C2 : Cal P w K mg base (L2.CX P w) 4 "check_deed" ["deed", "known"] (spCD K CD CU) f2 fd2) (C3 : Cal P w K mg base (L2.CX P w) 3 "check_run_cells" ["store"] (spCR K C CM) f3 fd3)
    (C5 : Cal P w K mg base CX0 3 "heap_of" ["store", "helpers"] (spHf K C CH) f4 fd4) : FnOk P w K mg base (L2.CX P w) 8 f fd ["store", "deed"] (spDone K C CN CD CU CM CF) := by
  obtain ⟨gcheck_store, kcheck_store, bcheck_store, Fcheck_store⟩ := C1
  obtain ⟨gcheck_deed, kcheck_deed, bcheck_deed, Fcheck_deed⟩ := C2
  obtain ⟨gcheck_run_cells, kcheck_run_cells, bcheck_run_cells, Fcheck_run_cells⟩ := C3
  obtain ⟨gheap_of, kheap_of, bheap_of, Fheap_of⟩ := C5
  refine F.ok sc_done (fun vs H Q E h => ?_) (fun cdv A outer s H vs Q E hr h => ?_)
  · obtain ⟨_, _, _, rfl, _⟩ := h
    rfl
  · obtain ⟨x, y, d, rfl, h⟩ := h
    have nd := sc_done.nd
    refine ⟨_, (pss_cons (ps_expr (pe_call Fcheck_store (hr.mono (by omega)) rfl gcheck_store kcheck_store bcheck_store .nil (passes_call (takes_of rfl rfl rfl rfl) (fun _ _ _ _ z => z)) (pa_cons (pv 0) pa_nil)))
        (pss_cons (ps_expr (pe_call Fcheck_deed (hr.mono (by omega)) rfl gcheck_deed kcheck_deed bcheck_deed .nil (passes_call (takes_of rfl rfl rfl rfl) (fun _ _ _ _ z => z)) (pa_cons (pv 1) (pa_cons (Ob.pe_fldK (K := K) rfl (pv 0) rfl) pa_nil))))
        (pss_cons (ps_expr (pe_call Fcheck_run_cells (hr.mono (by omega)) rfl gcheck_run_cells kcheck_run_cells bcheck_run_cells .nil (passes_call (takes_of rfl rfl rfl rfl) (fun _ _ _ _ z => z)) (pa_cons (pv 0) pa_nil)))
        (pss_cons (ps_set (i := 2) nd rfl (Or.inl rfl) (pe_call Fheap_of (hr.mono (by omega)) rfl gheap_of kheap_of bheap_of .nil pass0 (pa_cons (pv 0) (pa_cons pe_str pa_nil))))
        (pss_cons (ps_if (pt_cmpR op_isN (pe_meth (pv 2) W.cl M.don.m M.don.F (hr.mono (by omega)) M.don.b .nil pass0 (pa_cons (pv 1) pa_nil)) pe_non (nomark _)) (pss_one (ps_raiseE rfl R hr (takes_of rfl rfl rfl rfl) (pv 1) mono_var)) pss_nil)
        (pss_one (ps_ret (pe_meth (pv 2) W.cl M.sto.m M.sto.F (hr.mono (by omega)) M.sto.b .nil pass0 (pa_cons (Ob.pe_fldK (K := K) rfl (pv 0) rfl) pa_nil))))))))), ?_⟩
    refine sq fun U hU => ?_
    walk_at "rd"
    rcases h with ⟨e, he, ke⟩ | ⟨r, ns, cs, rfl, hst, hy, k0, k1⟩
    · exact ⟨x, rfl, .inr ⟨e, he, ke⟩⟩
    refine ⟨_, rfl, .inl ⟨r, ns, cs, rfl, hst, hU _ _ ?_⟩⟩
    clear hU
    obtain ⟨dx, an, ac, dp, da, hr0, hn, hc, hpd, ha, okn, okc⟩ := id hst
    obtain ⟨fn, fc, fp, fa, fl⟩ := K39S.StA.fa W' hr0
    refine sq fun U hU => ?_
    walk_at "rd"
    refine ⟨_, fl, y, d, ns, rfl, hy, k0, fun dd ed hL => ?_⟩
    obtain ⟨m1, m2⟩ := k1 dd ed hL
    refine ⟨m1, fun em H1 s1 => ?_⟩
    obtain ⟨m3, m4⟩ := m2 em
    have hst1 := hst.up s1
    refine hU _ _ ?_
    clear hU
    refine sq fun U hU => ?_
    walk_at "rd"
    refine ⟨r, ns, cs, rfl, hst1, fun hle => hU _ _ ?_, fun hgt => (m3 hgt).up s1⟩
    clear hU
    obtain ⟨m5, m6⟩ := m4 hle
    refine sq fun U hU => ?_
    walk_at "rd"
    refine ⟨r, ns, cs, rfl, hst1, fun h H2 s2 hh0 hf => hU _ _ ?_⟩
    clear hU
    obtain ⟨ex, d1, d2, d3, d4, e1, e2, e3, e4, e5, e6, z1, z2, z3, z4⟩ := hf
    have hp : HpD CH H2 h d1 d2 d3 d4 ns cs cs [] := ⟨ex, e1, e2, e3, e4, e5, e6⟩
    subst ed
    obtain ⟨b, rfl, hb⟩ := dq_deed hy
    have kd := hL.known em
    refine sq fun U hU => ?_
    walk_at "rd"
    have ln := okn.2.1
    refine ⟨_, _, e1, rfl, h, d1, d2, d3, d4, b, ns, cs, cs, [], dd, rfl, s2 _ _ (s1 _ _ hb), hp, kd, by omega, by simp, fun ea => ?_, fun p n1 c1 ea H3 hp3 fr => ?_⟩
    · show if V.non = V.non then _ else _
      rw [if_pos rfl]
      exact fun dd2 hdd => m5 ea dd2 H2 (s1.trans s2) hdd
    · show if V.int (p : Nat) = V.non then _ else _
      rw [if_neg (fun z => nomatch z)]
      have s3 : Same H1 H3 := fun c o e => fr c o (fun z => by rw [z, z1] at e; cases e) (fun z => by rw [z, z2] at e; cases e) (fun z => by rw [z, z3] at e; cases e) (fun z => by rw [z, z4] at e; cases e) (s2 _ _ e)
      refine hU _ _ ?_
      clear hU
      have hst3 := hst1.up s3
      obtain ⟨dx3, an3, ac3, dp3, da3, hr3, _⟩ := id hst3
      obtain ⟨fn3, fc3, fp3, fa3, fl3⟩ := K39S.StA.fa W' hr3
      obtain ⟨ex3, g1', _⟩ := id hp3
      have ok := Dd.act_ok (m := 100) okn ⟨hle, okc.2.1, List.pairwise_map.mpr (okc.2.2.imp fun {a b} q => Nat.ne_of_lt q)⟩ kd.known (by rw [List.length_map]; omega) ea
      walk_at "rd"
      refine ⟨_, _, g1', rfl, _, fl3, h, d1, d2, d3, d4, n1, c1, _, _, ?_, hp3, ok.1, ⟨by have := ok.2.1.1; omega, ok.2.1.2⟩, fun r' H4 s4 st => m6 p n1 c1 ea r' H4 (s1.trans (s3.trans s4)) st⟩
      rw [lett_act kd ea]
end
end K39

set_option Elab.async false
set_option linter.all false
set_option maxRecDepth 100000
set_option maxHeartbeats 4000000
namespace K39
open PySem PySem.Spec PyProof.Rows L2 Rd Dt Dq Pk Ln En Sx Sy So Sr Lk TL
open K39S (StA StB StM LSt HpA HpB spMade spTxt map_at kit_self sorted_names keys_n keys_c get_n get_d DcOk asc_nodup nuP nuP_step vN)
local macro_rules | `(tactic| walk_at "rd") => `(tactic| try simp only [↓De.tFor_str, ↓Lk.tLockE_, ↓Lk.tLock_, ↓Lk.tLc_keys, ↓Lk.tFor_keys, ↓Sy.tTupP_, ↓Sy.rTupP_, ↓Sy.rCatP_, ↓Sy.rSlP_, ↓Sy.rDictT_, ↓Sy.tDGet_, ↓Sy.tDGet1_, ↓Sy.tDIn_, ↓Sy.tDNotIn_, ↓Sy.tMeth_, ↓Sy.tMethKw_, ↓Sy.rSortedS_, ↓Sx.rIsT_, ↓En.tFor_enumT, ↓Sy.tFor_enumL, ↓Rv.tMakeKw_, ↓Prp.tProp_, ↓Lo.tBits_, ↓Lo.tJs_n, ↓Lo.tJs_c, ↓Lo.tFmt_, ↓Lo.gFld_, ↓Lo.tMake_, ↓Lo.rOwn_, ↓Rg.tFor_range3, ↓Rg.tLc_range3, ↓Rg.tLstC_, ↓Rg.tLc_rngV, ↓Le.rNeLE_, ↓Le.rEqLE_, ↓Ls.tLc_str, ↓Ls.sDPut_, ↓Rl.rReprL_, ↓Rl.tCallKS_, ↓Ob.tFld_, ↓Ob.sFld_, ↓tVar_, ↓tC_, ↓tM1, ↓tDNewK_, ↓tOp_, ↓tUn_, ↓rI_, ↓rI0_, ↓rU_, ↓eq_ii, ↓ne_ii, ↓eq_ss, ↓ne_ss, ↓eq_bb, ↓ne_bb, ↓tAndV_, ↓tOrV_, ↓tNotV_, ↓tIf_, ↓tTest_, ↓tB_, ↓tAnd_, ↓tOr_, ↓tNot_, ↓tChain_, ↓tNil_, ↓tCons_, ↓tTup_, ↓tLst_, ↓tCB_, ↓tCall_, ↓tSeq_, ↓tNext_, ↓tRet_, ↓tRetN_, ↓tDrop_, ↓tBreak_, ↓tNever_, ↓tIfS_, ↓tAsg_, ↓gName_, ↓gTup_, ↓gCons_, ↓gNil_, ↓gSub_, ↓tPar_, ↓tPar3_, ↓tSl_, ↓tNoPart_, ↓tPart_, ↓tBM_, ↓tFor_range1, ↓tFor_range2, ↓tFor_list, ↓tFor_tup, L2.start, List.headD_cons, List.headD_nil, List.tail_cons, List.map_cons, List.map_nil, List.length_cons, List.length_nil, List.replicate, List.append_nil, List.nil_append, List.cons_append, List.getElem?_cons_zero, List.getElem?_cons_succ, List.set_cons_zero, List.set_cons_succ, Option.some.injEq, V.int.injEq, V.bl.injEq, V.str.injEq, V.ref.injEq, exists_eq_left, exists_eq_left', exists_eq_right, exists_eq, exists_and_left, and_true, true_and, decide_eq_true_eq, Nat.reduceAdd, Nat.reduceSub, Nat.add_zero, Nat.zero_add, List.cons.injEq, Bool.not_eq_true', decide_eq_false_iff_not, eq_self, reduceCtorEq, Bool.false_eq_true, if_true, if_false, ite_true, ite_false, and_self, ↓tLc_range1, ↓tLc_range2, ↓tLc_list, ↓tLc_tup, ↓tYes_, wipe0, wipe1, ↓tCallS_, ↓rIxL_, ↓rIxT_, ↓rSlL_, ↓rCat_, ↓rSetL_, ↓rRep_, ↓rGcd_, ↓tCallK_, ↓gUnl_, ↓tRaise_, decide_true, decide_false, not_true_eq_false, not_false_eq_true, false_and, or_false, false_or, and_false, and_assoc, exists_const, forall_const, forall_eq'])
section
variable {P : Program} {w : World} {K : PySem.W.Frag} {mg : Str → Option Value} {base : Heap}
/-! ### the law's own deed -/
def frP (H4 : Hp) (dn dc dg T : Addr) (L : List Nat) (i : Nat) : L2.St → Hp → Prop := fun σ H' => But T H4 H' ∧ H' T = some (.dK ((Dd.tkOf (L.take i)).map Dd.tK)) ∧ ∃ y, σ = [some (.ref dn), some (.ref dc), some (.ref dg), some (.ref T), y]
def spFree : Sp := fun vs H Q _ => ∃ (dn dc dg : Addr) (ns cs : List (Nat × Nat)) (gs : List Nat), vs = [.ref dn, .ref dc, .ref dg] ∧ H dn = some (.dK (ns.map nk)) ∧ H dc = some (.dK (cs.map ck)) ∧ H dg = some (.dK (gs.map Dd.tK)) ∧ ns.length + cs.length + cs.length + gs.length ≤ 990 ∧
  ∀ H', Same H H' → Q (.int (Dd.fr (ns.map (·.2) ++ cs.map (·.2) ++ (cs.map (·.1) ++ gs)) : Nat)) H'
def fsQ (H : Hp) (tk : List Nat) (D : Addr) (j : Nat) (H' : Hp) : Prop := Same H H' ∧ H' D = some (.lst (((List.range' 1 j).filter fun n => decide (n ∉ tk)).map vN))
theorem sc_free : FnScope ["_law_homes", "_law_links", "_law_gone", "_law_taken", "_law_spot"] ["_law_homes", "_law_links", "_law_gone"] (defScope (top 47)) := ⟨rfl, rfl, rfl, by decide +kernel, rfl, by decide +kernel, by decide +kernel⟩
theorem ok_free {f : Addr} {fd : FuncData} (T : Th mg) (F : FD K "_law_free" (top 47) f fd) : FnOk P w K mg base CX0 2 f fd ["_law_homes", "_law_links", "_law_gone"] spFree := by
  refine F.ok sc_free (fun vs H Q E h => ?_) (fun cdv A outer s H vs Q E hr h => ?_)
  · obtain ⟨_, _, _, _, _, _, rfl, _⟩ := h
    rfl
  · obtain ⟨dn, dc, dg, ns, cs, gs, rfl, h1, h2, h3, hl, k⟩ := h
    have nd := sc_free.nd
    refine ⟨_, (pss_cons (ps_set (i := 3) nd rfl (Or.inr rfl) pe_dnewK)
        (pss_cons (ps_for (passes_of rfl) rfl (pi_list (pe_op op_cat (pe_op op_cat (pe_op op_cat (Si.pe_weak (t' := Si.tLV _) (pe_callTy (Si.cr_listD rfl) (by rfl) T.b_list (by decide +kernel) (pa_cons (pe_bm0 PySem.F.plainAttrs_dict PySem.F.slot_dict_values PySem.F.type_dict_values Si.mt_valsK (pv 0)) pa_nil)) (fun σ H Q h => Si.lv_ok mono_var h)) (Si.pe_weak (t' := Si.tLV _) (pe_callTy (Si.cr_listD rfl) (by rfl) T.b_list (by decide +kernel) (pa_cons (pe_bm0 PySem.F.plainAttrs_dict PySem.F.slot_dict_values PySem.F.type_dict_values Si.mt_valsK (pv 1)) pa_nil)) (fun σ H Q h => Si.lv_ok mono_var h))) (Si.pe_weak (t' := Si.tLK _) (pe_callTy (Si.cr_listD rfl) (by rfl) T.b_list (by decide +kernel) (pa_cons (pv 1) pa_nil)) (fun σ H Q h => Si.lk_ok mono_var h))) (Si.pe_weak (t' := Si.tLK _) (pe_callTy (Si.cr_listD rfl) (by rfl) T.b_list (by decide +kernel) (pa_cons (pv 2) pa_nil)) (fun σ H Q h => Si.lk_ok mono_var h)))) (pg_name (i := 4) nd rfl (Or.inl rfl)) (pss_one (ps_dput (hu_of hr) (pv 3) (pv 4) pe_bl rfl)))
        (pss_one (ps_ret (pe_ix (r := rIxL K) ix_list (pe_lc (own := [("_law_spot", 4)]) rfl nd (pi_range2 rfl T.b_range (pa_cons pe_int (pa_cons (pe_op op_add (pe_callB call_lenD (by rfl) T.b_len PySem.boot_len (pa_cons (pv 3) pa_nil)) pe_int) pa_nil))) (blkOk_by (N := ["_law_homes", "_law_links", "_law_gone", "_law_taken", "_law_spot"]) (sc := defScope (top 47)) (by decide +kernel)) (fun _ _ _ _ _ => (pg_name (i := 4) nd rfl (Or.inl rfl))) (fun _ _ _ _ _ => (pts_one (pt_cmp (pc_dnotin (hu_of hr) (pv 4) (pv 3))))) (fun _ _ _ _ _ => (pv 4))) pe_int (fun _ _ => rfl)))))), ?_⟩
    refine sq fun U hU => ?_
    walk_at "rd"
    refine fun T hT => hU _ _ ?_
    clear hU
    have s1 : Same H (upd H T (.dK [])) := same_new hT
    have f1 : upd H T (.dK []) T = some (.dK []) := upd_same
    generalize upd H T (.dK []) = H1 at s1 f1 ⊢
    refine sq fun U hU => ?_
    walk_at "rd"
    simp only [Si.tLV, Si.tLK]
    walk_at "rd"
    have zl : (1000000 : Nat) ≤ sizeLine := line_big
    have v1 : (ns.map nk).map (fun x => x.2) = (ns.map (·.2)).map vN := by rw [List.map_map, List.map_map]; rfl
    have v2 : (cs.map ck).map (fun x => x.2) = (cs.map (·.2)).map vN := by rw [List.map_map, List.map_map]; rfl
    have v3 : (cs.map ck).map (fun k => kV k.1) = (cs.map (·.1)).map vN := by rw [List.map_map, List.map_map]; rfl
    have v4 : (gs.map Dd.tK).map (fun k => kV k.1) = gs.map vN := by rw [List.map_map]; rfl
    refine ⟨_, s1 _ _ h1, by rw [List.length_map]; omega, fun H2 l1 s2 n1 e1 => ?_⟩
    refine ⟨_, s2 _ _ (s1 _ _ h2), by rw [List.length_map]; omega, fun H3 l2 s3 n2 e2 => ?_⟩
    rw [v1] at e1
    rw [v2] at e2
    refine ⟨_, s3 _ _ e1, _, e2, by simp only [List.length_map]; omega, fun p hp => ?_⟩
    have q1 : Same H3 (upd H3 p (.lst ((ns.map (·.2)).map vN ++ (cs.map (·.2)).map vN))) := same_new hp
    have q2 : upd H3 p (.lst ((ns.map (·.2)).map vN ++ (cs.map (·.2)).map vN)) p = some (.lst ((ns.map (·.2)).map vN ++ (cs.map (·.2)).map vN)) := upd_same
    generalize upd H3 p (.lst ((ns.map (·.2)).map vN ++ (cs.map (·.2)).map vN)) = H4 at q1 q2 ⊢
    have s14 := (s2.trans s3).trans q1
    refine ⟨_, s14 _ _ (s1 _ _ h2), by rw [List.length_map]; omega, fun H5 l3 s5 n3 e3 => ?_⟩
    rw [v3] at e3
    refine ⟨_, s5 _ _ q2, _, e3, by simp only [List.length_map, List.length_append]; omega, fun p2 hp2 => ?_⟩
    have q3 : Same H5 (upd H5 p2 (.lst (((ns.map (·.2)).map vN ++ (cs.map (·.2)).map vN) ++ (cs.map (·.1)).map vN))) := same_new hp2
    have q4 : upd H5 p2 (.lst (((ns.map (·.2)).map vN ++ (cs.map (·.2)).map vN) ++ (cs.map (·.1)).map vN)) p2 = some (.lst (((ns.map (·.2)).map vN ++ (cs.map (·.2)).map vN) ++ (cs.map (·.1)).map vN)) := upd_same
    generalize upd H5 p2 (.lst (((ns.map (·.2)).map vN ++ (cs.map (·.2)).map vN) ++ (cs.map (·.1)).map vN)) = H6 at q3 q4 ⊢
    have s16 := (s14.trans s5).trans q3
    refine ⟨_, s16 _ _ (s1 _ _ h3), by rw [List.length_map]; omega, fun H7 l4 s7 n4 e4 => ?_⟩
    rw [v4] at e4
    refine ⟨_, s7 _ _ q4, _, e4, by simp only [List.length_map, List.length_append]; omega, fun p3 hp3 => ?_⟩
    have s18 := (s16.trans s7).trans (same_new (o := .lst ((((ns.map (·.2)).map vN ++ (cs.map (·.2)).map vN) ++ (cs.map (·.1)).map vN) ++ gs.map vN)) hp3)
    have eL : (((ns.map (·.2)).map vN ++ (cs.map (·.2)).map vN) ++ (cs.map (·.1)).map vN) ++ gs.map vN = (ns.map (·.2) ++ cs.map (·.2) ++ (cs.map (·.1) ++ gs)).map vN := by simp only [List.map_append, List.append_assoc]
    rw [eL] at s18 ⊢
    have e8 : upd H7 p3 (.lst ((ns.map (·.2) ++ cs.map (·.2) ++ (cs.map (·.1) ++ gs)).map vN)) p3 = some (.lst ((ns.map (·.2) ++ cs.map (·.2) ++ (cs.map (·.1) ++ gs)).map vN)) := upd_same
    have nT : p3 ≠ T := fun z => by rw [z, s7 _ _ (s16 _ _ f1)] at hp3; cases hp3
    have lL : (ns.map (·.2) ++ cs.map (·.2) ++ (cs.map (·.1) ++ gs)).length ≤ 990 := by simp only [List.length_append, List.length_map]; omega
    generalize upd H7 p3 (.lst ((ns.map (·.2) ++ cs.map (·.2) ++ (cs.map (·.1) ++ gs)).map vN)) = H8 at s18 e8 ⊢
    generalize ns.map (·.2) ++ cs.map (·.2) ++ (cs.map (·.1) ++ gs) = L at e8 lL k ⊢
    clear e1 e2 e3 e4 n1 n2 n3 n4 s2 s3 s5 s7 hp hp2 hp3 q1 q2 q3 q4 eL s14 s16
    refine ⟨⟨_, SqL.of e8⟩, for_l (K := K) (a := p3) (xs := L.map vN) (frP H8 dn dc dg T L) ⟨fun _ _ _ e => e, by rw [s18 _ _ f1]; rfl, _, rfl⟩ (fun i σ H' _ h => SqL.of (h.1 _ _ nT e8)) ?_ ?_⟩
    · rintro i y σ H' hi ⟨b, ht, z, rfl⟩
      obtain ⟨x, hx, rfl⟩ := map_at hi
      walk_at "rd"
      have et : L.take (i + 1) = L.take i ++ [x] := by rw [List.take_succ, hx]; rfl
      have pt : DPut H' T (vN x) (.bl true) (upd H' T (.dK (putK ((Dd.tkOf (L.take i)).map Dd.tK) (.inl (x : Int)) (.bl true)))) := DPut.k (k := .inl (x : Int)) ht (by
        have := Dd.tkOf_len (L.take i)
        have := List.length_take_le' i L
        rw [List.length_map]
        omega)
      exact ⟨_, pt, fun c o n e => by rw [upd_ne n]; exact b _ _ n e, by rw [upd_same, Dd.ad_tK, et, Dd.tkOf_snoc], _, rfl⟩
    · rintro σ H' ⟨b, ht, z, rfl⟩
      rw [List.length_map, List.take_length] at ht
      refine hU _ _ ?_
      clear hU
      have sH : Same H H' := fun c o e => b _ _ (fun z => by rw [z, hT] at e; cases e) (s18 _ _ (s1 _ _ e))
      walk_at "rd"
      have tl := Dd.tkOf_len L
      have tm : ∀ x, x ∈ L ↔ x ∈ Dd.tkOf L := fun x => Dd.tkOf_mem.symm
      generalize Dd.tkOf L = tk at ht tl tm
      have hn : (((tk.map Dd.tK).length : Nat) + 2 - 1 : Int).toNat = tk.length + 1 := by rw [List.length_map]; omega
      refine ⟨_, ht, by decide, by decide, by omega, by rw [List.length_map]; omega, ?_⟩
      rw [hn]
      refine lc_r (fun D => fsQ H' tk D) fun D hD => ⟨⟨same_new hD, by rw [upd_same]; rfl⟩, ?_, ?_⟩
      · rintro i H6 hi ⟨h6, hL6⟩
        have hT6 : H6 T = some (.dK (tk.map Dd.tK)) := h6 _ _ ht
        have ei : (1 + (i : Int)) = ((i + 1 : Nat) : Int) := by omega
        have gT : DGet H6 T (.int (1 + (i : Int))) (if i + 1 ∈ tk then some (.bl true) else none) := by
          have := DGet.k (k := (.inl (((i + 1 : Nat)) : Int))) hT6
          rw [Dd.val_tK] at this
          rw [ei]
          exact this
        have et : List.range' 1 (i + 1) = List.range' 1 i ++ [i + 1] := by rw [List.range'_concat]; simp [Nat.add_comm]
        unfold Lturn
        walk_at "rd"
        refine ⟨_, gT, ?_⟩
        by_cases c : i + 1 ∈ tk
        · rw [if_pos c]
          refine ⟨h6, ?_⟩
          rw [et, List.filter_append, List.filter_cons_of_neg (by simpa using c), List.filter_nil, List.append_nil]
          exact hL6
        · rw [if_neg c]
          refine ⟨_, hL6, ?_, fun b o eb => ?_, ?_⟩
          · rw [List.length_map]
            have := List.length_filter_le (fun n => decide (n ∉ tk)) (List.range' 1 i)
            rw [List.length_range'] at this
            omega
          · rw [upd_ne (ne_of_none eb hD)]
            exact h6 _ _ eb
          · rw [upd_same, et, List.filter_append, List.filter_cons_of_pos (by simpa using c), List.filter_nil, List.map_append, ei]
            rfl
      · rintro H6 ⟨h6, hL6⟩
        obtain ⟨r, er⟩ := Dd.fr_head (S := L) (T := tk) tm tk.length (Nat.le_refl _)
        rw [er] at hL6
        refine ⟨D, rfl, _, SqL.of hL6, vN (Dd.fr L), atI_nn (by decide) rfl, k H6 (sH.trans h6)⟩
end
end K39

set_option Elab.async false
set_option linter.all false
set_option maxRecDepth 100000
set_option maxHeartbeats 4000000
namespace K39
open PySem PySem.Spec PyProof.Rows L2 Rd Dt Dq Pk Ln En Sx Sy So Sr Lk TL
open K39S (StA StB StM LSt HpA HpB spMade spTxt map_at kit_self sorted_names keys_n keys_c get_n get_d DcOk asc_nodup nuP nuP_step vN)
local macro_rules | `(tactic| walk_at "rd") => `(tactic| try simp only [↓De.tFor_str, ↓Lk.tLockE_, ↓Lk.tLock_, ↓Lk.tLc_keys, ↓Lk.tFor_keys, ↓Sy.tTupP_, ↓Sy.rTupP_, ↓Sy.rCatP_, ↓Sy.rSlP_, ↓Sy.rDictT_, ↓Sy.tDGet_, ↓Sy.tDGet1_, ↓Sy.tDIn_, ↓Sy.tDNotIn_, ↓Sy.tMeth_, ↓Sy.tMethKw_, ↓Sy.rSortedS_, ↓Sx.rIsT_, ↓En.tFor_enumT, ↓Sy.tFor_enumL, ↓Rv.tMakeKw_, ↓Prp.tProp_, ↓Lo.tBits_, ↓Lo.tJs_n, ↓Lo.tJs_c, ↓Lo.tFmt_, ↓Lo.gFld_, ↓Lo.tMake_, ↓Lo.rOwn_, ↓Rg.tFor_range3, ↓Rg.tLc_range3, ↓Rg.tLstC_, ↓Rg.tLc_rngV, ↓Le.rNeLE_, ↓Le.rEqLE_, ↓Ls.tLc_str, ↓Ls.sDPut_, ↓Rl.rReprL_, ↓Rl.tCallKS_, ↓Ob.tFld_, ↓Ob.sFld_, ↓tVar_, ↓tC_, ↓tM1, ↓tDNewK_, ↓tOp_, ↓tUn_, ↓rI_, ↓rI0_, ↓rU_, ↓eq_ii, ↓ne_ii, ↓eq_ss, ↓ne_ss, ↓eq_bb, ↓ne_bb, ↓tAndV_, ↓tOrV_, ↓tNotV_, ↓tIf_, ↓tTest_, ↓tB_, ↓tAnd_, ↓tOr_, ↓tNot_, ↓tChain_, ↓tNil_, ↓tCons_, ↓tTup_, ↓tLst_, ↓tCB_, ↓tCall_, ↓tSeq_, ↓tNext_, ↓tRet_, ↓tRetN_, ↓tDrop_, ↓tBreak_, ↓tNever_, ↓tIfS_, ↓tAsg_, ↓gName_, ↓gTup_, ↓gCons_, ↓gNil_, ↓gSub_, ↓tPar_, ↓tPar3_, ↓tSl_, ↓tNoPart_, ↓tPart_, ↓tBM_, ↓tFor_range1, ↓tFor_range2, ↓tFor_list, ↓tFor_tup, L2.start, List.headD_cons, List.headD_nil, List.tail_cons, List.map_cons, List.map_nil, List.length_cons, List.length_nil, List.replicate, List.append_nil, List.nil_append, List.cons_append, List.getElem?_cons_zero, List.getElem?_cons_succ, List.set_cons_zero, List.set_cons_succ, Option.some.injEq, V.int.injEq, V.bl.injEq, V.str.injEq, V.ref.injEq, exists_eq_left, exists_eq_left', exists_eq_right, exists_eq, exists_and_left, and_true, true_and, decide_eq_true_eq, Nat.reduceAdd, Nat.reduceSub, Nat.add_zero, Nat.zero_add, List.cons.injEq, Bool.not_eq_true', decide_eq_false_iff_not, eq_self, reduceCtorEq, Bool.false_eq_true, if_true, if_false, ite_true, ite_false, and_self, ↓tLc_range1, ↓tLc_range2, ↓tLc_list, ↓tLc_tup, ↓tYes_, wipe0, wipe1, ↓tCallS_, ↓rIxL_, ↓rIxT_, ↓rSlL_, ↓rCat_, ↓rSetL_, ↓rRep_, ↓rGcd_, ↓tCallK_, ↓gUnl_, ↓tRaise_, decide_true, decide_false, not_true_eq_false, not_false_eq_true, false_and, or_false, false_or, and_false, and_assoc, exists_const, forall_const, forall_eq'])
section
variable {P : Program} {w : World} {K : PySem.W.Frag} {mg : Str → Option Value} {base : Heap}
/-! ### _law_act -/
def gsD (gs : List Nat) (p : Nat) : Dd.Deed → List Nat
  | .drop _ => Dd.ad gs p
  | _ => gs
def rdD (p : Nat) : Dd.Deed → Nat
  | .next _ _ => p
  | _ => 0
def wrD (p : Nat) : Dd.Deed → Nat
  | .new _ => p
  | .tie _ _ => p
  | .drop _ => p
  | _ => 0
theorem pu_d {H : Hp} {d : Addr} {ns : List (Nat × Nat)} (h : H d = some (.dK (ns.map nk))) {a : Str} (ka : KnL ns a) (hl : ns.length ≤ 1000) (v : Nat) : DPut H d (.str a) (.int v) (upd H d (.dK ((Dd.pu ns (Dd.hd a) v).map nk))) := by
  obtain ⟨c, rfl, _⟩ := ka
  have zl : (1000000 : Nat) ≤ sizeLine := line_big
  have e : Dd.hd (L1 c) = c := rfl
  rw [e, ← Dd.pu_nk]
  exact DPut.k (k := .inr (L1 c)) h (by rw [List.length_map]; omega)
theorem pu_k {H : Hp} {d : Addr} {cs : List (Nat × Nat)} (h : H d = some (.dK (cs.map ck))) (hl : cs.length ≤ 1000) (k v : Nat) : DPut H d (.int k) (.int v) (upd H d (.dK ((Dd.pu cs k v).map ck))) := by
  have zl : (1000000 : Nat) ≤ sizeLine := line_big
  rw [← Dd.pu_ck]
  exact DPut.k (k := .inl (k : Int)) h (by rw [List.length_map]; omega)
theorem ad_t {H : Hp} {d : Addr} {gs : List Nat} (h : H d = some (.dK (gs.map Dd.tK))) (hl : gs.length ≤ 1000) (k : Nat) : DPut H d (.int k) (.bl true) (upd H d (.dK ((Dd.ad gs k).map Dd.tK))) := by
  have zl : (1000000 : Nat) ≤ sizeLine := line_big
  rw [← Dd.ad_tK]
  exact DPut.k (k := .inl (k : Int)) h (by rw [List.length_map]; omega)
theorem ge_k {H : Hp} {d : Addr} {cs : List (Nat × Nat)} (h : H d = some (.dK (cs.map ck))) (k : Nat) : DGet H d (.int k) ((look cs k).map fun v : Nat => V.int v) := by
  have := DGet.k (k := (.inl ((k : Nat) : Int))) h
  rw [val_c, if_pos (by omega), Int.toNat_natCast] at this
  exact this
def spLAct : Sp := fun vs H Q _ => ∃ (dn dc dg b : Addr) (ns cs : List (Nat × Nat)) (gs : List Nat) (d : Dd.Deed), vs = [.ref dn, .ref dc, .ref dg, .ref b] ∧ H b = some (.tup (d.row.map V.str)) ∧ H dn = some (.dK (ns.map nk)) ∧ H dc = some (.dK (cs.map ck)) ∧ H dg = some (.dK (gs.map Dd.tK)) ∧ [dn, dc, dg].Nodup ∧ DeedK ns d ∧ ns.length + cs.length + cs.length + gs.length ≤ 990 ∧
  (Dd.act d ns cs (cs.map (·.1) ++ gs) = none → ∀ l H', Same H H' → H' l = some (.lst [.bl false, .int 0, .int 0]) → Q (.ref l) H') ∧
  (∀ p n1 c1, Dd.act d ns cs (cs.map (·.1) ++ gs) = some (p, n1, c1) → ∀ l H', H' dn = some (.dK (n1.map nk)) → H' dc = some (.dK (c1.map ck)) → H' dg = some (.dK ((gsD gs p d).map Dd.tK)) → H' l = some (.lst [.bl true, .int (rdD p d : Nat), .int (wrD p d : Nat)]) → H l = none → (∀ b o, b ≠ dn → b ≠ dc → b ≠ dg → H b = some o → H' b = some o) → Q (.ref l) H')
theorem sc_lact : FnScope ["_law_homes", "_law_links", "_law_gone", "_law_act_here", "_law_kind", "_law_one", "_law_spot"] ["_law_homes", "_law_links", "_law_gone", "_law_act_here"] (defScope (top 48)) := ⟨rfl, rfl, rfl, by decide +kernel, rfl, by decide +kernel, by decide +kernel⟩
theorem ok_lact {f : Addr} {fd : FuncData} (T : Th mg) (F : FD K "_law_act" (top 48) f fd) {f1 : Addr} {fd1 : FuncData} (C1 : Cal P w K mg base CX0 2 "_law_free" ["_law_homes", "_law_links", "_law_gone"] spFree f1 fd1) : FnOk P w K mg base CX0 3 f fd ["_law_homes", "_law_links", "_law_gone", "_law_act_here"] spLAct := by
  obtain ⟨g_law_free, k_law_free, b_law_free, F_law_free⟩ := C1
  refine F.ok sc_lact (fun vs H Q E h => ?_) (fun cdv A outer s H vs Q E hr h => ?_)
  · obtain ⟨_, _, _, _, _, _, _, _, rfl, _⟩ := h
    rfl
  · obtain ⟨dn, dc, dg, b, ns, cs, gs, d, rfl, hb, h1, h2, h3, hnd, kd, hl, k0, k1⟩ := h
    have nd := sc_lact.nd
    refine ⟨_, (pss_cons (ps_par rfl nd (i := 4) (j := 5) rfl rfl (by decide) rfl rfl (pa_cons (pe_ix (r := rIxT K) ix_tup (pv 3) pe_int (fun _ _ => rfl)) (pa_cons (pe_ix (r := rIxT K) ix_tup (pv 3) pe_int (fun _ _ => rfl)) pa_nil)) rfl)
        (pss_cons (ps_if (pt_cmpR op_eq (pv 4) pe_str (nomark _)) (pss_cons (ps_dput (hu_of hr) (pv 0) (pv 5) (pe_ifExp (pt_cmpR op_eq (pe_ix (r := rIxT K) ix_tup (pv 3) pe_int (fun _ _ => rfl)) pe_str (nomark _)) pe_int (pe_dget (hu_of hr) (pv 0) (pe_ix (r := rIxT K) ix_tup (pv 3) pe_int (fun _ _ => rfl)) (fun _ _ => rfl))) rfl)
        (pss_one (ps_ret (pe_lst (pa_cons pe_bl (pa_cons pe_int (pa_cons pe_int pa_nil))))))) pss_nil)
        (pss_cons (ps_if (pt_cmpR op_eq (pv 4) pe_str (nomark _)) (pss_cons (ps_set (i := 6) nd rfl (Or.inl rfl) (pe_call F_law_free (hr.mono (by omega)) rfl g_law_free k_law_free b_law_free .nil pass0 (pa_cons (pv 0) (pa_cons (pv 1) (pa_cons (pv 2) pa_nil)))))
        (pss_cons (ps_dput (hu_of hr) (pv 1) (pv 6) pe_int rfl)
        (pss_cons (ps_dput (hu_of hr) (pv 0) (pv 5) (pv 6) rfl)
        (pss_one (ps_ret (pe_lst (pa_cons pe_bl (pa_cons pe_int (pa_cons (pv 6) pa_nil))))))))) pss_nil)
        (pss_cons (ps_set (i := 6) nd rfl (Or.inl rfl) (pe_ifExp (pt_cmpR op_eq (pv 4) pe_str (nomark _)) (pe_dget (hu_of hr) (pv 0) (pe_ix (r := rIxT K) ix_tup (pv 3) pe_int (fun _ _ => rfl)) (fun _ _ => rfl)) (pe_dget (hu_of hr) (pv 0) (pv 5) (fun _ _ => rfl))))
        (pss_cons (ps_if (pt_cmp (pc_dnotin (hu_of hr) (pv 6) (pv 1))) (pss_one (ps_ret (pe_lst (pa_cons pe_bl (pa_cons pe_int (pa_cons pe_int pa_nil)))))) pss_nil)
        (pss_cons (ps_if (pt_cmpR op_eq (pv 4) pe_str (nomark _)) (pss_cons (ps_dput (hu_of hr) (pv 0) (pv 5) (pe_dget (hu_of hr) (pv 1) (pv 6) (fun _ _ => rfl)) rfl)
        (pss_one (ps_ret (pe_lst (pa_cons pe_bl (pa_cons (pv 6) (pa_cons pe_int pa_nil))))))) pss_nil)
        (pss_cons (ps_if (pt_cmpR op_eq (pv 4) pe_str (nomark _)) (pss_one (ps_dput (hu_of hr) (pv 1) (pv 6) (pe_ifExp (pt_cmpR op_eq (pe_ix (r := rIxT K) ix_tup (pv 3) pe_int (fun _ _ => rfl)) pe_str (nomark _)) pe_int (pe_dget (hu_of hr) (pv 0) (pe_ix (r := rIxT K) ix_tup (pv 3) pe_int (fun _ _ => rfl)) (fun _ _ => rfl))) rfl)) (pss_cons (ps_expr (pe_bm PySem.F.plainAttrs_dict PySem.F.slot_dict_pop PySem.F.type_dict_pop Si.mt_popD (pv 1) (pa_cons (pv 6) pa_nil)))
        (pss_one (ps_dput (hu_of hr) (pv 2) (pv 6) pe_bl rfl))))
        (pss_one (ps_ret (pe_lst (pa_cons pe_bl (pa_cons pe_int (pa_cons (pv 6) pa_nil))))))))))))), ?_⟩
    refine sq fun U hU => ?_
    walk_at "rd"
    have step : ∀ k a, atI (d.row.map V.str) 0 = some (.str k) → atI (d.row.map V.str) 1 = some (.str a) → U [some (.ref dn), some (.ref dc), some (.ref dg), some (.ref b), some (.str k), some (.str a), none] H → (∃ x, SqT K H b x ∧ ∃ x_1, atI x 0 = some x_1 ∧ ∃ x, SqT K H b x ∧ ∃ x_2, atI x 1 = some x_2 ∧ U [some (V.ref dn), some (V.ref dc), some (V.ref dg), some (V.ref b), some x_1, some x_2, none] H) := fun k a e e2 u =>
      ⟨_, SqT.of hb, .str k, e, _, SqT.of hb, .str a, e2, u⟩
    simp only [List.nodup_cons, List.mem_cons, List.not_mem_nil, or_false, not_or, List.nodup_nil, and_true, not_false_eq_true] at hnd
    obtain ⟨⟨n1, n2⟩, n3⟩ := hnd
    have fin : ∀ (H2 : Hp) (p : Nat) (n1 c1 : List (Nat × Nat)) (l1 l2 : Int), Dd.act d ns cs (cs.map (·.1) ++ gs) = some (p, n1, c1) → H2 dn = some (.dK (n1.map nk)) → H2 dc = some (.dK (c1.map ck)) → H2 dg = some (.dK ((gsD gs p d).map Dd.tK)) →
        (∀ b o, b ≠ dn → b ≠ dc → b ≠ dg → H b = some o → H2 b = some o) → l1 = (rdD p d : Nat) → l2 = (wrD p d : Nat) → 3 ≤ sizeLine ∧ ∀ q : Addr, H2 q = none → Q (.ref q) (upd H2 q (.lst [.bl true, .int l1, .int l2])) := fun H2 p n1 c1 l1 l2 ea e1 e2 e3 fr el1 el2 => by
      refine ⟨by decide, fun q hq => ?_⟩
      have sp := same_new (o := .lst [.bl true, .int l1, .int l2]) hq
      subst el1 el2
      refine k1 p _ _ ea q _ (sp _ _ e1) (sp _ _ e2) (sp _ _ e3) upd_same ?_ fun c o m1 m2 m3 eo => sp _ _ (fr _ _ m1 m2 m3 eo)
      cases z : H q with
      | none => rfl
      | some o =>
        exfalso
        have := fr q o (fun c => by rw [c, e1] at hq; cases hq) (fun c => by rw [c, e2] at hq; cases hq) (fun c => by rw [c, e3] at hq; cases hq) z
        rw [hq] at this
        cases this
    clear k1
    cases d with
    | copy a e =>
      refine step _ _ rfl rfl (hU _ _ ?_)
      clear step hU
      walk_at "rd"
      have pn := pu_d h1 kd.1 (by omega) (plc ns e)
      have fn := fin (upd H dn (.dK ((Dd.pu ns (Dd.hd a) (plc ns e)).map nk))) 0 _ _ 0 0 rfl upd_same (by rw [upd_ne (Ne.symm n1)]; exact h2) (by rw [upd_ne (Ne.symm n2)]; exact h3) (fun c o m1 m2 m3 eo => by rw [upd_ne m1]; exact eo) rfl rfl
      refine ⟨_, SqT.of hb, .str e, rfl, ?_⟩
      rw [eq_ss]
      refine ⟨_, rfl, ?_⟩
      by_cases hE : e = Str.ofString "END"
      · have pe : plc ns e = 0 := if_pos hE
        rw [decide_eq_true hE, if_pos rfl]
        rw [pe] at pn fn
        exact ⟨_, pn, fn⟩
      · rw [decide_eq_false hE, if_neg (by decide)]
        exact ⟨_, SqT.of hb, .str e, rfl, _, get_l h1 (kd.2.resolve_left hE), _, pn, fn⟩
    | new a =>
      refine step _ _ rfl rfl (hU _ _ ?_)
      clear step hU
      refine sq fun U hU => ?_
      walk_at "rd"
      rw [if_neg (by decide)]
      refine hU _ _ ?_
      clear hU
      walk_at "rd"
      refine ⟨dn, dc, dg, ns, cs, gs, rfl, h1, h2, h3, hl, fun H1 s1 => ?_⟩
      have p1 := pu_k (s1 _ _ h2) (by omega) (Dd.fr (ns.map (·.2) ++ cs.map (·.2) ++ (cs.map (·.1) ++ gs))) 0
      have p2 := pu_d (H := upd H1 dc (.dK ((Dd.pu cs (Dd.fr (ns.map (·.2) ++ cs.map (·.2) ++ (cs.map (·.1) ++ gs))) 0).map ck))) (d := dn) (ns := ns) (by rw [upd_ne n1]; exact s1 _ _ h1) kd (by omega) (Dd.fr (ns.map (·.2) ++ cs.map (·.2) ++ (cs.map (·.1) ++ gs)))
      exact ⟨_, p1, _, p2, fin _ _ _ _ 0 _ rfl upd_same (by rw [upd_ne (Ne.symm n1), upd_same]) (by rw [upd_ne (Ne.symm n2), upd_ne (Ne.symm n3)]; exact s1 _ _ h3) (fun c o m1 m2 m3 eo => by rw [upd_ne m1, upd_ne m2]; exact s1 _ _ eo) rfl rfl⟩
    | next a e =>
      refine step _ _ rfl rfl (hU _ _ ?_)
      clear step hU
      refine sq fun U hU => ?_
      walk_at "rd"
      rw [if_neg (by decide)]
      refine hU _ _ ?_
      clear hU
      refine sq fun U hU => ?_
      walk_at "rd"
      rw [if_neg (by decide)]
      refine hU _ _ ?_
      clear hU
      refine sq fun U hU => ?_
      walk_at "rd"
      refine ⟨_, SqT.of hb, .str e, rfl, _, get_l h1 kd.2, ?_⟩
      refine hU _ _ ?_
      clear hU
      refine sq fun U hU => ?_
      walk_at "rd"
      refine ⟨_, ge_k h2 (plc ns e), ?_⟩
      cases ec : look cs (plc ns e) with
      | none =>
        rw [if_pos (by rfl)]
        refine ⟨by decide, fun l hl2 => k0 (by show Option.map _ (look cs (plc ns e)) = none; rw [ec]; rfl) l _ (same_new hl2) upd_same⟩
      | some v =>
        rw [if_neg (by intro z; cases z)]
        refine hU _ _ ?_
        clear hU
        walk_at "rd"
        have gc := ge_k h2 (plc ns e)
        rw [ec] at gc
        exact ⟨_, gc, _, pu_d h1 kd.1 (by omega) v, fin _ (plc ns e) (Dd.pu ns (Dd.hd a) v) cs _ _ (by show Option.map _ (look cs (plc ns e)) = _; rw [ec]; rfl) upd_same (by rw [upd_ne (Ne.symm n1)]; exact h2) (by rw [upd_ne (Ne.symm n2)]; exact h3) (fun c o m1 m2 m3 eo => by rw [upd_ne m1]; exact eo) rfl rfl⟩
    | tie a e =>
      refine step _ _ rfl rfl (hU _ _ ?_)
      clear step hU
      refine sq fun U hU => ?_
      walk_at "rd"
      rw [if_neg (by decide)]
      refine hU _ _ ?_
      clear hU
      refine sq fun U hU => ?_
      walk_at "rd"
      rw [if_neg (by decide)]
      refine hU _ _ ?_
      clear hU
      refine sq fun U hU => ?_
      walk_at "rd"
      rw [if_neg (by decide)]
      refine ⟨_, get_l h1 kd.1, ?_⟩
      refine hU _ _ ?_
      clear hU
      refine sq fun U hU => ?_
      walk_at "rd"
      refine ⟨_, ge_k h2 (plc ns a), ?_⟩
      cases ec : look cs (plc ns a) with
      | none =>
        rw [if_pos (by rfl)]
        refine ⟨by decide, fun l hl2 => k0 (by show Option.map _ (look cs (plc ns a)) = none; rw [ec]; rfl) l _ (same_new hl2) upd_same⟩
      | some v =>
        rw [if_neg (by intro z; cases z)]
        refine hU _ _ ?_
        clear hU
        walk_at "rd"
        have gc := ge_k h2 (plc ns a)
        rw [ec] at gc
        rw [if_neg (by decide)]
        have pn := pu_k h2 (by omega) (plc ns a) (plc ns e)
        have fn := fin (upd H dc (.dK ((Dd.pu cs (plc ns a) (plc ns e)).map ck))) (plc ns a) ns _ 0 _ (by show Option.map _ (look cs (plc ns a)) = _; rw [ec]; rfl) (by rw [upd_ne n1]; exact h1) upd_same (by rw [upd_ne (Ne.symm n3)]; exact h3) (fun c o m1 m2 m3 eo => by rw [upd_ne m2]; exact eo) rfl rfl
        refine ⟨_, SqT.of hb, .str e, rfl, ?_⟩
        rw [eq_ss]
        refine ⟨_, rfl, ?_⟩
        by_cases hE : e = Str.ofString "END"
        · have pe : plc ns e = 0 := if_pos hE
          rw [decide_eq_true hE, if_pos rfl]
          rw [pe] at pn fn
          exact ⟨_, pn, fn⟩
        · rw [decide_eq_false hE, if_neg (by decide)]
          exact ⟨_, SqT.of hb, .str e, rfl, _, get_l h1 (kd.2.resolve_left hE), _, pn, fn⟩
    | drop a =>
      refine step _ _ rfl rfl (hU _ _ ?_)
      clear step hU
      refine sq fun U hU => ?_
      walk_at "rd"
      rw [if_neg (by decide)]
      refine hU _ _ ?_
      clear hU
      refine sq fun U hU => ?_
      walk_at "rd"
      rw [if_neg (by decide)]
      refine hU _ _ ?_
      clear hU
      refine sq fun U hU => ?_
      walk_at "rd"
      rw [if_neg (by decide)]
      refine ⟨_, get_l h1 kd, ?_⟩
      refine hU _ _ ?_
      clear hU
      refine sq fun U hU => ?_
      walk_at "rd"
      refine ⟨_, ge_k h2 (plc ns a), ?_⟩
      cases ec : look cs (plc ns a) with
      | none =>
        rw [if_pos (by rfl)]
        refine ⟨by decide, fun l hl2 => k0 (by show Option.map _ (look cs (plc ns a)) = none; rw [ec]; rfl) l _ (same_new hl2) upd_same⟩
      | some v =>
        rw [if_neg (by intro z; cases z)]
        refine hU _ _ ?_
        clear hU
        walk_at "rd"
        have gc := ge_k h2 (plc ns a)
        rw [ec] at gc
        rw [if_neg (by decide), if_neg (by decide)]
        refine ⟨.inr (.inr (.inl ⟨rfl, .inl ⟨_, h2⟩⟩)), dc, _, (.inl ((plc ns a : Nat) : Int)), .int (v : Nat), rfl, rfl, h2, ?_, ?_⟩
        · rw [val_c, if_pos (by omega), Int.toNat_natCast, ec]
          rfl
        · rw [Dd.dl_ck]
          have p1 := ad_t (H := upd H dc (.dK ((Dd.dl cs (plc ns a)).map ck))) (d := dg) (gs := gs) (by rw [upd_ne (Ne.symm n3)]; exact h3) (by omega) (plc ns a)
          exact ⟨_, p1, fin _ (plc ns a) ns (Dd.dl cs (plc ns a)) 0 _ (by show Option.map _ (look cs (plc ns a)) = _; rw [ec]; rfl) (by rw [upd_ne n2, upd_ne n1]; exact h1) (by rw [upd_ne n3, upd_same]) upd_same (fun c o m1 m2 m3 eo => by rw [upd_ne m3, upd_ne m2]; exact eo) rfl rfl⟩
end
end K39

set_option Elab.async false
set_option linter.all false
set_option maxRecDepth 100000
set_option maxHeartbeats 4000000
/-! sorted of a tuple of texts -/
namespace St
open PySem PySem.Spec PyProof.Rows L2 Rd Dt Pk Ln En Sx Sy So
section
variable {P : Program} {w : World} {A : Around} {E : Value → Shared → Prop} {s : Shared}
theorem sortTK {κ : KeyKind} (hO : κ.OneLt) {l : Addr} {vs : List Value} {Q : Value → Shared → Prop} (hl : s.heap.IsTuple l vs.toArray) (h0 : KeysOf κ (pairsOf vs)) (hkk : ∀ v₁ v₂ rest, vs = v₁ :: v₂ :: rest → keyKind' (v₁ :: v₂ :: rest).toArray = pure oneType') (hL : vs.length ≤ sizeLine)
    (h : ∀ st' : SortSt, (arrOf st').Perm (pairsOf vs) → SortedToK κ (arrOf st') (pairsOf vs).size → Q (.ref (s.heap.objs.size + 1)) { s with heap := sortedAll s.heap vs ((arrOf st').map (·.2)) }) :
    wpAny (model P w) A (call (.builtin "sorted") [.ref l]) Q E s := by
  refine Calls.call_function_entry kind_sorted plain_sorted entry_sorted (args_sorted1 _) ?_
  unfold Builtin.«sorted»
  refine wpAny_bind (m := checkCount "sorted" 1 1 _) (wpAny_pure (wpAny_bind (gath_tuple hl hL (wpAny_bind (wpAny_newList ?_ hL)))))
  have sz : (gath s.heap vs).objs.size = s.heap.objs.size + 1 := by rw [Heap.size_update]; exact Heap.size_push ..
  have mine : ((gath s.heap vs).push (seqObj "list" vs.toArray 0)).get? (s.heap.objs.size + 1) = some (seqObj "list" vs.toArray 0) := by
    rw [← sz]
    exact Heap.get?_push_size _ rfl
  show wpAny _ _ _ _ _ { s with heap := (gath s.heap vs).push (seqObj "list" vs.toArray 0) }
  rw [sz]
  refine wpAny_bind (wpAny_holding (wpAny_call_entry slot_list_sort ⟨_, mine, rfl⟩ entry_list_sort (list_sort_treeKAny hO mine h0 hkk hL fun st' a1 a2 => ⟨_, rfl, ?_⟩) (args_list_sort _)))
  exact wpAny_pure ⟨_, rfl, h st' a1 a2⟩
theorem sortTS {l : Addr} {vs : List Value} {ss : List Str} {Q : Value → Shared → Prop} (hl : s.heap.IsTuple l vs.toArray) (hS : StrsAre vs ss) (hL : vs.length ≤ sizeLine)
    (h : ∀ (out : Array Value) (ss' : List Str), StrsAre out.toList ss' → ss'.Perm ss → sortedS ss' = true → Q (.ref (s.heap.objs.size + 1)) { s with heap := sortedAll s.heap vs out }) :
    wpAny (model P w) A (call (.builtin "sorted") [.ref l]) Q E s := by
  refine sortTK strKind_oneLt hl hS.keysOf (fun v₁ v₂ rest e => keyKind_strs (by rw [← e]; exact hS)) hL fun st' hp hs => ?_
  obtain ⟨ss', h1, h2, h3⟩ := sorted_out_str hS hp hs
  exact h _ ss' h1 h2 h3
end
def rSortedST (K : PySem.W.Frag) : List V → Hp → VK → Prop := fun vs H Q => ∃ (a : Addr) (xs : List Str), vs = [V.ref a] ∧ SqT K H a (xs.map V.str) ∧ xs.length < 64 ∧
  ∀ (ys : List Str) (p : Addr), ys.Perm xs → sortedS ys = true → H p = none → Q (.ref p) (upd H p (.lst (ys.map V.str)))
theorem cr_sortedST {X : Cx} {K : PySem.W.Frag} (hK : X.K = K) : CallR X (.builtin "sorted") (rSortedST K) := by
  subst hK
  intro pins s σ H vs us Q I r h
  obtain ⟨a, xs, rfl, hs, h64, q⟩ := h
  obtain ⟨its, rv, hl, hz⟩ := I.tuple hs
  rw [Vals.ref1 r]
  have hlen0 := rv.length
  rw [List.length_map] at hlen0
  refine sortTS hl rv.strs (by rw [← rv.length]; exact hz) fun out ys h1 h2 h3 => ?_
  obtain ⟨ep, he'⟩ := PyProof.Rows.sortedAll_at s.heap its out
  have hlen : (ys.map V.str).length ≤ sizeLine := by rw [List.length_map, h2.length_eq]; exact small64 h64
  exact ⟨.ref _, upd H (s.heap.objs.size + 1) (.lst (ys.map V.str)), I.laid (t' := s.toks) (fun _ _ => PyProof.Rows.sortedAll_old) (Nat.le_succ _) ⟨hlen, out.toList, ep, vals_of_strs h1, he'⟩, rfl, q ys _ h2 h3 (I.hok.fresh (Nat.le_succ _))⟩
end St

set_option Elab.async false
set_option linter.all false
set_option maxRecDepth 100000
set_option maxHeartbeats 4000000
namespace K39
open PySem PySem.Spec PyProof.Rows L2 Rd Dt Dq Pk Ln En Sx Sy So Sr Lk TL
open K39S (StA StB StM LSt HpA HpB spMade spTxt map_at kit_self sorted_names keys_n keys_c get_n get_d DcOk asc_nodup nuP nuP_step vN)
local macro_rules | `(tactic| walk_at "rd") => `(tactic| try simp only [↓De.tFor_str, ↓Lk.tLockE_, ↓Lk.tLock_, ↓Lk.tLc_keys, ↓Lk.tFor_keys, ↓Sy.tTupP_, ↓Sy.rTupP_, ↓Sy.rCatP_, ↓Sy.rSlP_, ↓Sy.rDictT_, ↓Sy.tDGet_, ↓Sy.tDGet1_, ↓Sy.tDIn_, ↓Sy.tDNotIn_, ↓Sy.tMeth_, ↓Sy.tMethKw_, ↓Sy.rSortedS_, ↓Sx.rIsT_, ↓En.tFor_enumT, ↓Sy.tFor_enumL, ↓Rv.tMakeKw_, ↓Prp.tProp_, ↓Lo.tBits_, ↓Lo.tJs_n, ↓Lo.tJs_c, ↓Lo.tFmt_, ↓Lo.gFld_, ↓Lo.tMake_, ↓Lo.rOwn_, ↓Rg.tFor_range3, ↓Rg.tLc_range3, ↓Rg.tLstC_, ↓Rg.tLc_rngV, ↓Le.rNeLE_, ↓Le.rEqLE_, ↓Ls.tLc_str, ↓Ls.sDPut_, ↓Rl.rReprL_, ↓Rl.tCallKS_, ↓Ob.tFld_, ↓Ob.sFld_, ↓tVar_, ↓tC_, ↓tM1, ↓tDNewK_, ↓tOp_, ↓tUn_, ↓rI_, ↓rI0_, ↓rU_, ↓eq_ii, ↓ne_ii, ↓eq_ss, ↓ne_ss, ↓eq_bb, ↓ne_bb, ↓tAndV_, ↓tOrV_, ↓tNotV_, ↓tIf_, ↓tTest_, ↓tB_, ↓tAnd_, ↓tOr_, ↓tNot_, ↓tChain_, ↓tNil_, ↓tCons_, ↓tTup_, ↓tLst_, ↓tCB_, ↓tCall_, ↓tSeq_, ↓tNext_, ↓tRet_, ↓tRetN_, ↓tDrop_, ↓tBreak_, ↓tNever_, ↓tIfS_, ↓tAsg_, ↓gName_, ↓gTup_, ↓gCons_, ↓gNil_, ↓gSub_, ↓tPar_, ↓tPar3_, ↓tSl_, ↓tNoPart_, ↓tPart_, ↓tBM_, ↓tFor_range1, ↓tFor_range2, ↓tFor_list, ↓tFor_tup, L2.start, List.headD_cons, List.headD_nil, List.tail_cons, List.map_cons, List.map_nil, List.length_cons, List.length_nil, List.replicate, List.append_nil, List.nil_append, List.cons_append, List.getElem?_cons_zero, List.getElem?_cons_succ, List.set_cons_zero, List.set_cons_succ, Option.some.injEq, V.int.injEq, V.bl.injEq, V.str.injEq, V.ref.injEq, exists_eq_left, exists_eq_left', exists_eq_right, exists_eq, exists_and_left, and_true, true_and, decide_eq_true_eq, Nat.reduceAdd, Nat.reduceSub, Nat.add_zero, Nat.zero_add, List.cons.injEq, Bool.not_eq_true', decide_eq_false_iff_not, eq_self, reduceCtorEq, Bool.false_eq_true, if_true, if_false, ite_true, ite_false, and_self, ↓tLc_range1, ↓tLc_range2, ↓tLc_list, ↓tLc_tup, ↓tYes_, wipe0, wipe1, ↓tCallS_, ↓rIxL_, ↓rIxT_, ↓rSlL_, ↓rCat_, ↓rSetL_, ↓rRep_, ↓rGcd_, ↓tCallK_, ↓gUnl_, ↓tRaise_, decide_true, decide_false, not_true_eq_false, not_false_eq_true, false_and, or_false, false_or, and_false, and_assoc, exists_const, forall_const, forall_eq'])
section
variable {P : Program} {w : World} {K : PySem.W.Frag} {mg : Str → Option Value} {base : Heap}
/-! ### what the law finds lacking; drawn stores -/
def spLack : Sp := fun vs H Q _ => ∃ (dn l : Addr) (ns : List (Nat × Nat)) (ss : List Str), vs = [.ref dn, .ref l] ∧ H dn = some (.dK (ns.map nk)) ∧ H l = some (.tup (ss.map V.str)) ∧ (∀ s ∈ ss, isGoal (.str s) = true) ∧ ss.length ≤ 20 ∧
  ∀ (D : Addr) (ls : List Str) H', Same H H' → H' D = some (.lst (ls.map V.str)) → ls.head? = miss ns (letL ss) → ls.length ≤ 20 → Q (.ref D) H'
def lkP (H : Hp) (t : Str → Bool) (ys : List Str) (D : Addr) (j : Nat) (H' : Hp) : Prop := Same H H' ∧ H' D = some (.lst (((ys.take j).filter t).map V.str))
theorem sc_lack : FnScope ["_law_homes", "_law_some", "_law_sign"] ["_law_homes", "_law_some"] (defScope (top 52)) := ⟨rfl, rfl, rfl, by decide +kernel, rfl, by decide +kernel, by decide +kernel⟩
theorem ok_lack {f : Addr} {fd : FuncData} (T : Th mg) (F : FD K "_law_lacking" (top 52) f fd) : FnOk P w K mg base CX0 1 f fd ["_law_homes", "_law_some"] spLack := by
  refine F.ok sc_lack (fun vs H Q E h => ?_) (fun cdv A outer s H vs Q E hr h => ?_)
  · obtain ⟨_, _, _, _, rfl, _⟩ := h
    rfl
  · obtain ⟨dn, l, ns, ss, rfl, hdn, hl, hg, hs20, k⟩ := h
    have nd := sc_lack.nd
    have zl : (1000000 : Nat) ≤ sizeLine := line_big
    refine ⟨_, (pss_one (ps_ret (pe_lc (own := [("_law_sign", 2)]) rfl nd (pi_list (pe_callB (St.cr_sortedST (K := K) rfl) (by rfl) T.b_sorted (by decide +kernel) (pa_cons (pv 1) pa_nil))) (blkOk_by (N := ["_law_homes", "_law_some", "_law_sign"]) (sc := defScope (top 52)) (by decide +kernel)) (fun _ _ _ _ _ => (pg_name (i := 2) nd rfl (Or.inl rfl))) (fun _ _ _ _ _ => (pts_one (PW.pt (pw_and (pt_cmpR op_ne (pv 2) pe_str (nomark _)) (pw_and1 (pt_cmp (pc_dnotin (hu_of hr) (pv 2) (pv 0)))))))) (fun _ _ _ _ _ => (pv 2))))), ?_⟩
    walk_at "rd"
    refine ⟨l, ss, rfl, SqT.of hl, by omega, fun ys p py sy hp => ?_⟩
    have s1 : Same H (upd H p (.lst (ys.map V.str))) := same_new hp
    have f1 : upd H p (.lst (ys.map V.str)) p = some (.lst (ys.map V.str)) := upd_same
    generalize upd H p (.lst (ys.map V.str)) = H1 at s1 f1 ⊢
    have ly := py.length_eq
    refine ⟨p, rfl, ⟨_, SqL.of f1⟩, lc_l (xs := ys.map V.str) (lkP H1 (lack ns) ys) fun D hD => ⟨⟨same_new hD, upd_same⟩, fun j H6 _ hP => SqL.of (hP.1 _ _ f1), ?_, ?_⟩⟩
    · rintro j y H6 hy ⟨h6, hL⟩
      obtain ⟨s, hs, rfl⟩ := map_at hy
      have et : ys.take (j + 1) = ys.take j ++ [s] := by rw [List.take_succ, hs]; rfl
      have no : lack ns s = false → lkP H1 (lack ns) ys D (j + 1) H6 := fun e => ⟨h6, by rw [et, List.filter_append]; simp [e, hL]⟩
      unfold Lturn
      walk_at "rd"
      by_cases hE : s = Str.ofString "END"
      · rw [if_neg (fun z => z hE)]
        refine no ?_
        unfold lack
        rw [decide_eq_false (fun z => z hE)]
        rfl
      · rw [if_pos hE]
        obtain ⟨c, rfl⟩ := let_L1 ((goal_cases (hg s (py.mem_iff.mp (List.mem_of_getElem? hs)))).resolve_left hE)
        have gd := DGet.k (k := Sum.inr (L1 c)) (h6 _ _ (s1 _ _ hdn))
        rw [val_n] at gd
        refine ⟨_, gd, ?_⟩
        have ek : ((look ns c).map fun v : Nat => V.int v).isSome = kn ns (L1 c) := by
          show _ = (look ns c).isSome
          cases look ns c <;> rfl
        rw [ek]
        have le : lack ns (L1 c) = !kn ns (L1 c) := by
          unfold lack
          rw [show decide (L1 c ≠ "END") = true from decide_eq_true hE]
          rfl
        cases e : kn ns (L1 c) with
        | true =>
          rw [if_neg (by decide)]
          exact no (by rw [le, e]; rfl)
        | false =>
          rw [if_pos rfl]
          refine ⟨_, hL, ?_, fun b o eb => ?_, ?_⟩
          · rw [List.length_map]
            have := List.length_filter_le (lack ns) (ys.take j)
            have := List.length_take_le' j ys
            omega
          · rw [upd_ne (ne_of_none eb hD)]
            exact h6 _ _ eb
          · rw [upd_same, et, List.filter_append, List.map_append]
            simp [le, e]
    · rintro H6 ⟨h6, hL⟩
      rw [List.length_map, List.take_length] at hL
      refine k D _ H6 (s1.trans h6) hL (lack_head hg py sy) ?_
      have := List.length_filter_le (lack ns) ys
      omega
end
end K39

set_option Elab.async false
set_option linter.all false
set_option maxRecDepth 100000
set_option maxHeartbeats 4000000
namespace K39
open PySem PySem.Spec PyProof.Rows L2 Rd Dt Dq Pk Ln En Sx Sy So Sr Lk TL
open K39S (StA StB StM LSt HpA HpB spMade spTxt map_at kit_self sorted_names keys_n keys_c get_n get_d DcOk asc_nodup nuP nuP_step vN)
local macro_rules | `(tactic| walk_at "rd") => `(tactic| try simp only [↓De.tFor_str, ↓Lk.tLockE_, ↓Lk.tLock_, ↓Lk.tLc_keys, ↓Lk.tFor_keys, ↓Sy.tTupP_, ↓Sy.rTupP_, ↓Sy.rCatP_, ↓Sy.rSlP_, ↓Sy.rDictT_, ↓Sy.tDGet_, ↓Sy.tDGet1_, ↓Sy.tDIn_, ↓Sy.tDNotIn_, ↓Sy.tMeth_, ↓Sy.tMethKw_, ↓Sy.rSortedS_, ↓Sx.rIsT_, ↓En.tFor_enumT, ↓Sy.tFor_enumL, ↓Rv.tMakeKw_, ↓Prp.tProp_, ↓Lo.tBits_, ↓Lo.tJs_n, ↓Lo.tJs_c, ↓Lo.tFmt_, ↓Lo.gFld_, ↓Lo.tMake_, ↓Lo.rOwn_, ↓Rg.tFor_range3, ↓Rg.tLc_range3, ↓Rg.tLstC_, ↓Rg.tLc_rngV, ↓Le.rNeLE_, ↓Le.rEqLE_, ↓Ls.tLc_str, ↓Ls.sDPut_, ↓Rl.rReprL_, ↓Rl.tCallKS_, ↓Ob.tFld_, ↓Ob.sFld_, ↓tVar_, ↓tC_, ↓tM1, ↓tDNewK_, ↓tOp_, ↓tUn_, ↓rI_, ↓rI0_, ↓rU_, ↓eq_ii, ↓ne_ii, ↓eq_ss, ↓ne_ss, ↓eq_bb, ↓ne_bb, ↓tAndV_, ↓tOrV_, ↓tNotV_, ↓tIf_, ↓tTest_, ↓tB_, ↓tAnd_, ↓tOr_, ↓tNot_, ↓tChain_, ↓tNil_, ↓tCons_, ↓tTup_, ↓tLst_, ↓tCB_, ↓tCall_, ↓tSeq_, ↓tNext_, ↓tRet_, ↓tRetN_, ↓tDrop_, ↓tBreak_, ↓tNever_, ↓tIfS_, ↓tAsg_, ↓gName_, ↓gTup_, ↓gCons_, ↓gNil_, ↓gSub_, ↓tPar_, ↓tPar3_, ↓tSl_, ↓tNoPart_, ↓tPart_, ↓tBM_, ↓tFor_range1, ↓tFor_range2, ↓tFor_list, ↓tFor_tup, L2.start, List.headD_cons, List.headD_nil, List.tail_cons, List.map_cons, List.map_nil, List.length_cons, List.length_nil, List.replicate, List.append_nil, List.nil_append, List.cons_append, List.getElem?_cons_zero, List.getElem?_cons_succ, List.set_cons_zero, List.set_cons_succ, Option.some.injEq, V.int.injEq, V.bl.injEq, V.str.injEq, V.ref.injEq, exists_eq_left, exists_eq_left', exists_eq_right, exists_eq, exists_and_left, and_true, true_and, decide_eq_true_eq, Nat.reduceAdd, Nat.reduceSub, Nat.add_zero, Nat.zero_add, List.cons.injEq, Bool.not_eq_true', decide_eq_false_iff_not, eq_self, reduceCtorEq, Bool.false_eq_true, if_true, if_false, ite_true, ite_false, and_self, ↓tLc_range1, ↓tLc_range2, ↓tLc_list, ↓tLc_tup, ↓tYes_, wipe0, wipe1, ↓tCallS_, ↓rIxL_, ↓rIxT_, ↓rSlL_, ↓rCat_, ↓rSetL_, ↓rRep_, ↓rGcd_, ↓tCallK_, ↓gUnl_, ↓tRaise_, decide_true, decide_false, not_true_eq_false, not_false_eq_true, false_and, or_false, false_or, and_false, and_assoc, exists_const, forall_const, forall_eq'])
section
variable {P : Program} {w : World} {K : PySem.W.Frag} {mg : Str → Option Value} {base : Heap}
/-! ### the law's drawn store -/
def spDrawn : Sp := fun vs H Q _ => ∃ (u : Addr) (z : Str), vs = [.ref u, .str z, .int 6] ∧ WellAt H u ∧ z.cps.toList.Pairwise (· < ·) ∧ (∀ c ∈ z.cps.toList, 97 ≤ c ∧ c ≤ 122) ∧ 1 ≤ z.cps.toList.length ∧ z.cps.toList.length ≤ 4 ∧
  ∀ (a dn dc : Addr) (ns ds : List (Nat × Nat)) (H' : Hp), But u H H' → WellAt H' u → LSt 6 H' a dn dc ns ds → ns.map (·.1) = z.cps.toList → a ≠ u → dn ≠ u → dc ≠ u → Q (.ref a) H'
def plF (far k : Nat) : Nat := if far < 4 then k + 1 else 11 * k + 7 * far + 400
def plP (H : Hp) (far : Nat) (D : Addr) (i : Nat) (H' : Hp) : Prop := Same H H' ∧ H' D = some (.lst (((List.range i).map (plF far)).map vN))
theorem wl_put {H : Hp} {u x : Addr} {o : HO} (h : WellAt H u) (n : x ≠ u) : WellAt (upd H x o) u := by
  obtain ⟨q1, q2, q3, e⟩ := h
  exact ⟨q1, q2, q3, by rw [upd_ne (Ne.symm n)]; exact e⟩
theorem six {d n : Nat} (h : d < n) : seqIndex? (d : Int) n = some d := by
  unfold seqIndex?
  simp
  omega
theorem map_eraseIdx' {α β : Type} (f : α → β) : ∀ (l : List α) (i : Nat), (l.eraseIdx i).map f = (l.map f).eraseIdx i
  | [], _ => rfl
  | _ :: _, 0 => rfl
  | x :: l, i + 1 => by
    show f x :: (l.eraseIdx i).map f = f x :: (l.map f).eraseIdx i
    rw [map_eraseIdx' f l i]
theorem perm_idx {α : Type} : ∀ (l : List α) (i : Nat) (h : i < l.length), ([l[i]] ++ l.eraseIdx i).Perm l
  | x :: l, 0, _ => List.Perm.refl _
  | x :: l, i + 1, h => by
    have := perm_idx l i (by simpa using h)
    show (l[i]'(by simpa using h) :: x :: l.eraseIdx i).Perm (x :: l)
    exact (List.Perm.swap _ _ _).trans (this.cons x)
def d2P (H : Hp) (u PL SP DN DL : Addr) (z : Str) (n far : Nat) (ss : List Nat) (p0 p1 : Nat) (y : Option V) (i : Nat) : L2.St → Hp → Prop := fun σ H' => But u H H' ∧ WellAt H' u ∧ H' DN = some (.dK []) ∧ H' SP = some (.lst (ss.map vN)) ∧ H' PL = some (.lst [vN p0, vN p1]) ∧ ∃ (ds : List (Nat × Nat)) (k w : Option V), H' DL = some (.dK (ds.map ck)) ∧ DcOk i ds ∧
  σ = [some (.ref u), some (.str z), some (.int 6), some (.int n), some (.int far), k, some (.ref PL), some (.ref SP), some (.ref DN), some (.ref DL), y, w, none]
def d3P (H : Hp) (u PL SP DN DL : Addr) (z : Str) (n far : Nat) (ss : List Nat) (p0 p1 : Nat) (ds : List (Nat × Nat)) (k y w : Option V) (i : Nat) : L2.St → Hp → Prop := fun σ H' => But u H H' ∧ WellAt H' u ∧ H' SP = some (.lst (ss.map vN)) ∧ H' PL = some (.lst [vN p0, vN p1]) ∧ H' DL = some (.dK (ds.map ck)) ∧ ∃ (ns : List (Nat × Nat)) (x : Option V), H' DN = some (.dK (ns.map nk)) ∧ ns.map (·.1) = z.cps.toList.take i ∧ (∀ n ∈ ns, n.2 ≤ 999) ∧
  σ = [some (.ref u), some (.str z), some (.int 6), some (.int n), some (.int far), k, some (.ref PL), some (.ref SP), some (.ref DN), some (.ref DL), y, w, x]
def d1P (H : Hp) (u PL SP DN DL : Addr) (z : Str) (n far : Nat) (i : Nat) : L2.St → Hp → Prop := fun σ H' => But u H H' ∧ WellAt H' u ∧ H' DN = some (.dK []) ∧ H' DL = some (.dK []) ∧ ∃ (ss ps : List Nat) (y : Option V), H' SP = some (.lst (ss.map vN)) ∧ H' PL = some (.lst (ps.map vN)) ∧
  (ss ++ ps).Nodup ∧ (∀ p ∈ ss ++ ps, 1 ≤ p ∧ p ≤ 999) ∧ ss.length = i ∧ ps.length = n + 2 - i ∧ σ = [some (.ref u), some (.str z), some (.int 6), some (.int n), some (.int far), none, some (.ref PL), some (.ref SP), some (.ref DN), some (.ref DL), y, none, none]
theorem sc_drawn : FnScope ["_law_well_here", "_law_signs", "_law_limit", "_law_often", "_law_far", "_law_k", "_law_pool", "_law_spots", "_law_homes", "_law_links", "_law_turn", "_law_near", "_law_sign"] ["_law_well_here", "_law_signs", "_law_limit"] (defScope (top 44)) := ⟨rfl, rfl, rfl, by decide +kernel, rfl, by decide +kernel, by decide +kernel⟩
theorem ok_drawn {f : Addr} {fd : FuncData} (T : Th mg) (F : FD K "_law_drawn" (top 44) f fd) {f1 f2 : Addr} {fd1 fd2 : FuncData} (C1 : Cal P w K mg base CX0 1 "_law_take" ["_law_well_here", "_law_limit"] spTake f1 fd1) (C2 : Cal P w K mg base CX0 2 "_law_pick" ["_law_well_here", "_law_some"] spPick f2 fd2) : FnOk P w K mg base CX0 3 f fd ["_law_well_here", "_law_signs", "_law_limit"] spDrawn := by
  obtain ⟨g_law_take, k_law_take, b_law_take, F_law_take⟩ := C1
  obtain ⟨g_law_pick, k_law_pick, b_law_pick, F_law_pick⟩ := C2
  refine F.ok sc_drawn (fun vs H Q E h => ?_) (fun cdv A outer s H vs Q E hr h => ?_)
  · obtain ⟨_, _, rfl, _⟩ := h
    rfl
  · obtain ⟨u, z, rfl, hw, zp, zr, z1, z4, k⟩ := h
    have nd := sc_drawn.nd
    have zl : (1000000 : Nat) ≤ sizeLine := line_big
    have wne : ∀ N (H' : Hp), WellAt H' u → H' N = none → N ≠ u := fun N H' w' hn q => by
      obtain ⟨_, _, _, e⟩ := w'
      rw [q, e] at hn
      cases hn
    refine ⟨_, (pss_cons (ps_asg (pe_tup (pa_cons (pe_call F_law_take (hr.mono (by omega)) rfl g_law_take k_law_take b_law_take .nil pass0 (pa_cons (pv 0) (pa_cons (pe_op op_add (pv 2) pe_int) pa_nil))) (pa_cons (pe_call F_law_take (hr.mono (by omega)) rfl g_law_take k_law_take b_law_take .nil pass0 (pa_cons (pv 0) (pa_cons pe_int pa_nil))) pa_nil))) (pg_tup rfl (pgs_cons (pg_name (i := 3) nd rfl (Or.inl rfl) (hf := Or.inr rfl)) (pgs_cons (pg_name (i := 4) nd rfl (Or.inr rfl) (hf := Or.inl rfl)) pgs_nil))))
        (pss_cons (ps_setLc (i := 6) (own := [("_law_k", 5)]) rfl nd rfl rfl (sw_true rfl rfl rfl (by decide +kernel)) (pi_range1 rfl T.b_range (pa_cons (pe_op op_add (pv 3) pe_int) pa_nil)) (blkOk_by (N := ["_law_well_here", "_law_signs", "_law_limit", "_law_often", "_law_far", "_law_k", "_law_pool", "_law_spots", "_law_homes", "_law_links", "_law_turn", "_law_near", "_law_sign"]) (sc := defScope (top 44)) (by decide +kernel)) (fun _ _ _ _ _ => (pg_name (i := 5) nd rfl (Or.inl rfl))) (fun _ _ _ _ _ => pts_nil) (fun _ _ _ _ _ => (pe_ifExp (pt_cmpR op_lt (pv 4) pe_int (nomark _)) (pe_op op_add (pv 5) pe_int) (pe_op op_add (pe_op op_add (pe_op op_mul pe_int (pv 5)) (pe_op op_mul pe_int (pv 4))) pe_int))))
        (pss_cons (ps_par3 rfl nd (i := 7) (j := 8) (l := 9) rfl rfl rfl (by decide) (by decide) (by decide) rfl rfl rfl (pa_cons (pe_lst pa_nil) (pa_cons pe_dnewK (pa_cons pe_dnewK pa_nil))) rfl)
        (pss_cons (ps_for (passes_of rfl) rfl (pi_range1 rfl T.b_range (pa_cons (pv 3) pa_nil)) (pg_name (i := 10) nd rfl (Or.inl rfl)) (pss_one (ps_expr (pe_bm PySem.F.plainAttrs_list PySem.F.slot_list_append PySem.F.type_list_append mt_append (pv 7) (pa_cons (pe_bm PySem.F.plainAttrs_list PySem.F.slot_list_pop PySem.F.type_list_pop mt_popAt (pv 6) (pa_cons (pe_call F_law_take (hr.mono (by omega)) rfl g_law_take k_law_take b_law_take .nil pass0 (pa_cons (pv 0) (pa_cons (pe_callB call_len_seq (by rfl) T.b_len PySem.boot_len (pa_cons (pv 6) pa_nil)) pa_nil))) pa_nil)) pa_nil)))))
        (pss_cons (ps_for (passes_of rfl) rfl (pi_range1 rfl T.b_range (pa_cons (pv 3) pa_nil)) (pg_name (i := 5) nd rfl (Or.inl rfl)) (pss_cons (ps_set (i := 11) nd rfl (Or.inl rfl) (pe_ifExp (pt_cmpR op_lt (pe_op op_add (pv 5) pe_int) (pv 3) (nomark _)) (pe_ix (r := rIxL K) ix_list (pv 7) (pe_op op_add (pv 5) pe_int) (fun _ _ => rfl)) pe_int))
        (pss_one (ps_dput (hu_of hr) (pv 9) (pe_ix (r := rIxL K) ix_list (pv 7) (pv 5) (fun _ _ => rfl)) (pe_ifExp (pt_cmpR op_gt (pe_call F_law_take (hr.mono (by omega)) rfl g_law_take k_law_take b_law_take .nil pass0 (pa_cons (pv 0) (pa_cons pe_int pa_nil))) pe_int (nomark _)) (pv 11) (pe_call F_law_pick (hr.mono (by omega)) rfl g_law_pick k_law_pick b_law_pick .nil pass0 (pa_cons (pv 0) (pa_cons (pe_op op_cat (pv 7) (pe_lst (pa_cons pe_int (pa_cons pe_int (pa_cons (pe_ix (r := rIxL K) ix_list (pv 6) pe_int (fun _ _ => rfl)) (pa_cons (pe_ix (r := rIxL K) ix_list (pv 6) pe_int (fun _ _ => rfl)) pa_nil)))))) pa_nil)))) rfl))))
        (pss_cons (ps_for (passes_of rfl) rfl (pi_str (pv 1)) (pg_name (i := 12) nd rfl (Or.inl rfl)) (pss_one (ps_dput (hu_of hr) (pv 8) (pv 12) (pe_call F_law_pick (hr.mono (by omega)) rfl g_law_pick k_law_pick b_law_pick .nil pass0 (pa_cons (pv 0) (pa_cons (pe_op op_cat (pe_op op_cat (pv 7) (pv 7)) (pe_lst (pa_cons pe_int (pa_cons (pe_ix (r := rIxL K) ix_list (pv 6) pe_int (fun _ _ => rfl)) (pa_cons (pe_ix (r := rIxL K) ix_list (pv 6) pe_int (fun _ _ => rfl)) pa_nil))))) pa_nil))) rfl)))
        (pss_one (ps_ret (pe_lst (pa_cons (pv 8) (pa_cons (pv 9) pa_nil))))))))))), ?_⟩
    refine sq fun U hU => ?_
    walk_at "rd"
    refine ⟨u, 7, rfl, hw, by decide, by decide, fun n H1 b1 w1 n0 n3 => ⟨u, 6, rfl, w1, by decide, by decide, fun far H2 b2 w2 f0 f5 => ?_⟩⟩
    obtain ⟨n, rfl⟩ : ∃ m : Nat, n = m := ⟨n.toNat, by omega⟩
    obtain ⟨far, rfl⟩ : ∃ m : Nat, far = m := ⟨far.toNat, by omega⟩
    refine ⟨by omega, fun p hp => ⟨_, SqT.of upd_same, rfl, _, _, rfl, _, _, rfl, rfl, hU _ _ ?_⟩⟩
    clear hU
    have B3 := (b1.trans b2).trans (But.same (same_new (o := .tup [.int n, .int far]) hp))
    have w3 := w2.but (same_new (o := .tup [.int n, .int far]) hp)
    generalize upd H2 p (.tup [.int n, .int far]) = H3 at B3 w3 ⊢
    clear b1 b2 w1 w2 hp
    refine sq fun U hU => ?_
    walk_at "rd"
    refine ⟨by omega, by omega, lc_r (plP H3 far) fun PL hPL => ⟨⟨same_new hPL, upd_same⟩, ?_, ?_⟩⟩
    · rintro i H' hi ⟨hs, hL⟩
      have et : (List.range (i + 1)).map (plF far) = (List.range i).map (plF far) ++ [plF far i] := by rw [List.range_succ, List.map_append]; rfl
      have step : ∃ acc, H' PL = some (.lst acc) ∧ acc.length < sizeLine ∧ plP H3 far PL (i + 1) (upd H' PL (.lst (acc ++ [vN (plF far i)]))) := by
        refine ⟨_, hL, by rw [List.length_map, List.length_map, List.length_range]; omega, fun b o e => ?_, ?_⟩
        · rw [upd_ne (ne_of_none e hPL)]
          exact hs _ _ e
        · rw [upd_same, et, List.map_append]
          rfl
      unfold Lturn
      walk_at "rd"
      have hi2 : i < n + 2 := by omega
      by_cases c : far < 4
      · have e : plF far i = i + 1 := if_pos c
        rw [if_pos (by omega)]
        rw [e] at step
        have e3 : (0 + (i : Int) + 1) = ((i + 1 : Nat) : Int) := by omega
        rw [e3]
        exact step
      · have e : plF far i = 11 * i + 7 * far + 400 := if_neg c
        rw [if_neg (by omega)]
        rw [e] at step
        have e3 : (11 * (0 + (i : Int)) + 7 * far + 400) = ((11 * i + 7 * far + 400 : Nat) : Int) := by omega
        rw [e3]
        exact ⟨.inl ⟨by omega, by omega⟩, .inl ⟨by omega, by omega⟩, step⟩
    rintro H4 ⟨s4, hP4⟩
    rw [show ((n : Int) + 2).toNat = n + 2 from by omega] at hP4
    refine hU _ _ ?_
    clear hU
    have B4 := B3.trans (But.same s4)
    have w4 := w3.but s4
    have nPu : PL ≠ u := wne PL H3 w3 hPL
    have zPL : H PL = none := by
      cases ep : H PL with
      | none => rfl
      | some o => rw [B3 _ _ nPu ep] at hPL; cases hPL
    clear B3 w3 s4
    obtain ⟨ps0, e0, nd0, rg0, ln0⟩ : ∃ ps : List Nat, (List.range (n + 2)).map (plF far) = ps ∧ ps.Nodup ∧ (∀ p ∈ ps, 1 ≤ p ∧ p ≤ 999) ∧ ps.length = n + 2 := by
      refine ⟨_, rfl, ?_, fun p hp => ?_, by rw [List.length_map, List.length_range]⟩
      · refine List.Pairwise.imp_of_mem (?_ : ∀ {a b}, a ∈ _ → b ∈ _ → a < b → a ≠ b) ?_
        · intro a b _ _ h; omega
        · rw [List.pairwise_map]
          refine List.pairwise_lt_range.imp fun {a b} h => ?_
          unfold plF
          split <;> omega
      · obtain ⟨k, hk, rfl⟩ := List.mem_map.mp hp
        have := List.mem_range.mp hk
        unfold plF
        split <;> omega
    rw [e0] at hP4
    clear e0
    refine sq fun U hU => ?_
    walk_at "rd"
    refine ⟨Nat.zero_le _, fun SP hSP DN hDN DL hDL => hU _ _ ?_⟩
    clear hU
    have nSu : SP ≠ u := wne SP H4 w4 hSP
    have nNu : DN ≠ u := wne DN _ (w4.but (same_new (o := .lst []) hSP)) hDN
    have nLu : DL ≠ u := wne DL _ ((w4.but (same_new (o := .lst []) hSP)).but (same_new (o := .dK []) hDN)) hDL
    have t1 := same_new (o := .lst []) hSP
    have t2 := same_new (o := .dK []) hDN
    have t3 := same_new (o := .dK []) hDL
    have t := (t1.trans t2).trans t3
    have nPS : PL ≠ SP := ne_of_none hP4 hSP
    have nPN : PL ≠ DN := ne_of_none (t1 _ _ hP4) hDN
    have nPL : PL ≠ DL := ne_of_none (t2 _ _ (t1 _ _ hP4)) hDL
    have nSN : SP ≠ DN := ne_of_none (o := .lst []) (upd_same) hDN
    have nSL : SP ≠ DL := ne_of_none (o := .lst []) (t2 _ _ upd_same) hDL
    have nNL : DN ≠ DL := ne_of_none (o := .dK []) upd_same hDL
    have hS5 := t3 _ _ (t2 _ _ (upd_same (H := H4) (a := SP) (o := .lst [])))
    have hN5 := t3 _ _ (upd_same (H := upd H4 SP (.lst [])) (a := DN) (o := .dK []))
    have hL5 : upd (upd (upd H4 SP (.lst [])) DN (.dK [])) DL (.dK []) DL = some (.dK []) := upd_same
    have hP5 := t _ _ hP4
    have B5 := B4.trans (But.same t)
    have w5 := w4.but t
    generalize upd (upd (upd H4 SP (.lst [])) DN (.dK [])) DL (.dK []) = H5 at hS5 hN5 hL5 hP5 B5 w5 ⊢
    have fresh : ∀ N, N ≠ u → H4 N = none → H N = none := fun N hn h6 => by
      cases ep : H N with
      | none => rfl
      | some o => rw [B4 _ _ hn ep] at h6; cases h6
    have back : ∀ {G : Hp} {q : Addr} {o : HO} {N : Addr}, H4 q = none → upd H4 q o N = none → H4 N = none := fun {G q o N} hq e => by
      cases ep : H4 N with
      | none => rfl
      | some o2 => rw [same_new hq _ _ ep] at e; cases e
    have zSP := fresh SP nSu hSP
    have zDN : H DN = none := fresh DN nNu (back (G := H4) hSP hDN)
    have zDL : H DL = none := fresh DL nLu (by
      cases ep : H4 DL with
      | none => rfl
      | some o2 => rw [t2 _ _ (t1 _ _ ep)] at hDL; cases hDL)
    clear fresh back t t1 t2 t3 hSP hDN hDL hP4 w4
    refine sq fun U hU => ?_
    walk_at "rd"
    refine ⟨by omega, by omega, for_r (d1P H u PL SP DN DL z n far) ⟨B5, w5, hN5, hL5, [], ps0, none, hS5, hP5, nd0, rg0, rfl, ln0, rfl⟩ ?_ ?_⟩
    · rintro i σ H' hi ⟨hb, wl, hN, hL, ss, ps, y, hS, hP, ndp, rgp, ls, lp, rfl⟩
      have hi2 : i < n := by omega
      walk_at "rd"
      refine ⟨.inl ⟨rfl, _, SqL.of hS⟩, .inl ⟨rfl, _, SqL.of hP⟩, _, .inl (SqL.of hP), u, _, rfl, wl, by rw [List.length_map]; omega, by rw [List.length_map]; omega, fun d G bG wG d0 d1 => ?_⟩
      rw [List.length_map] at d1
      obtain ⟨d, rfl⟩ : ∃ m : Nat, d = m := ⟨d.toNat, by omega⟩
      have hd : d < ps.length := by omega
      have hPG := bG _ _ nPu hP
      have hSG := bG _ _ nSu hS
      have perm : (ss ++ [ps[d]] ++ ps.eraseIdx d).Perm (ss ++ ps) := by
        rw [List.append_assoc]
        exact List.Perm.append_left _ (perm_idx ps d hd)
      refine ⟨PL, ps.map vN, d, d, vN ps[d], rfl, rfl, hPG, by omega, by omega, six (by rw [List.length_map]; exact hd), by rw [List.getElem?_map, List.getElem?_eq_getElem hd]; rfl, SP, _, _, rfl, rfl, by rw [upd_ne (Ne.symm nPS)]; exact hSG, by rw [List.length_map]; omega, ?_⟩
      refine ⟨fun b o nb eb => ?_, ?_, ?_, ?_, ss ++ [ps[d]], ps.eraseIdx d, _, ?_, ?_, perm.nodup_iff.mpr ndp, fun p hp => rgp p (perm.mem_iff.mp hp), by rw [List.length_append, ls]; rfl, by rw [List.length_eraseIdx_of_lt hd]; omega, rfl⟩
      · rw [upd_ne (ne_of_none eb zSP), upd_ne (ne_of_none eb zPL)]
        exact bG _ _ nb (hb _ _ nb eb)
      · exact wl_put (wl_put wG nPu) nSu
      · rw [upd_ne (Ne.symm nSN), upd_ne (Ne.symm nPN)]; exact bG _ _ nNu hN
      · rw [upd_ne (Ne.symm nSL), upd_ne (Ne.symm nPL)]; exact bG _ _ nLu hL
      · rw [upd_same, List.map_append]; rfl
      · rw [upd_ne nPS, upd_same]
        congr 2
        exact (map_eraseIdx' _ _ _).symm
    rintro σ H6 ⟨hb, wl, hN, hL, ss, ps, y, hS, hP, ndp, rgp, ls, lp, rfl⟩
    rw [show ((n : Int)).toNat = n from by omega] at ls lp
    refine hU _ _ ?_
    clear hU
    obtain ⟨p0, p1, rfl⟩ : ∃ a b, ps = [a, b] := by
      have l2 : ps.length = 2 := by omega
      match ps, l2 with
      | [a, b], _ => exact ⟨a, b, rfl⟩
    have r0 := rgp p0 (List.mem_append_right _ (List.mem_cons_self ..))
    have r1 := rgp p1 (List.mem_append_right _ (List.mem_cons_of_mem _ (List.mem_cons_self ..)))
    have rs : ∀ p ∈ ss, 1 ≤ p ∧ p ≤ 999 := fun p hp => rgp p (List.mem_append_left _ hp)
    clear ndp rgp lp
    refine sq fun U hU => ?_
    walk_at "rd"
    refine ⟨by omega, by omega, for_r (d2P H u PL SP DN DL z n far ss p0 p1 y) ⟨hb, wl, hN, hS, hP, [], none, none, hL, ⟨Nat.le_refl _, fun _ q => (nomatch q), List.nodup_nil⟩, rfl⟩ ?_ ?_⟩
    · rintro i σ H' hi ⟨hb, wl, hN, hS, hP, ds, k0, w0, hL, okd, rfl⟩
      have hi2 : i < n := by omega
      have lds := okd.1
      walk_at "rd"
      have hi3 : i < ss.length := by omega
      have rc := rs ss[i] (List.getElem_mem hi3)
      have at0 : atI (ss.map vN) (0 + (i : Int)) = some (vN ss[i]) := atI_nn (by omega) (by rw [show (0 + (i : Int)).toNat = i from by omega, List.getElem?_map, List.getElem?_eq_getElem hi3]; rfl)
      have fin : ∀ (G : Hp) (bG : But u H' G) (wG : WellAt G u) (v : Nat), v ≤ 999 → ∀ wv : V, ∃ x, SqL K G SP x ∧ ∃ x_2, atI x (0 + (i : Int)) = some x_2 ∧ ∃ x, DPut G DL x_2 (vN v) x ∧ d2P H u PL SP DN DL z n far ss p0 p1 y (i + 1) [some (.ref u), some (.str z), some (.int 6), some (.int n), some (.int far), some (.int (0 + i)), some (.ref PL), some (.ref SP), some (.ref DN), some (.ref DL), y, some wv, none] x := fun G bG wG v hv wv => by
        have hLG := bG _ _ nLu hL
        refine ⟨_, SqL.of (bG _ _ nSu hS), _, at0, _, .k (k := Sum.inl (ss[i] : Int)) hLG (by rw [List.length_map]; omega), fun b o nb eb => ?_, wl_put wG nLu, ?_, ?_, ?_, K39S.putN ds ss[i] v, _, _, ?_, K39S.putN_ok okd rc.1 rc.2 hv, rfl⟩
        · rw [upd_ne (ne_of_none eb zDL)]
          exact bG _ _ nb (hb _ _ nb eb)
        · rw [upd_ne nNL]; exact bG _ _ nNu hN
        · rw [upd_ne nSL]; exact bG _ _ nSu hS
        · rw [upd_ne nPL]; exact bG _ _ nPu hP
        · rw [upd_same, ← K39S.putK_ck]
      by_cases c : 0 + (i : Int) + 1 < n
      · have hi4 : i + 1 < ss.length := by omega
        rw [if_pos c]
        refine ⟨_, SqL.of hS, vN ss[i + 1], atI_nn (by omega) (by rw [show (0 + (i : Int) + 1).toNat = i + 1 from by omega, List.getElem?_map, List.getElem?_eq_getElem hi4]; rfl), ?_⟩
        refine ⟨u, 3, rfl, wl, by decide, by decide, fun t G bG wG t0 t1 => ⟨t, rfl, ?_⟩⟩
        by_cases ct : 0 < t
        · rw [if_pos ct]
          exact fin G bG wG _ (rs _ (List.getElem_mem hi4)).2 _
        · rw [if_neg ct]
          refine ⟨_, SqL.of (bG _ _ nPu hP), _, atI_nn (by decide) rfl, _, SqL.of (bG _ _ nPu hP), _, atI_nn (by decide) rfl, by omega, fun q1 hq1 => ⟨_, same_new hq1 _ _ (bG _ _ nSu hS), _, upd_same, by simp only [List.length_map, List.length_cons, List.length_nil]; omega, fun q2 hq2 => ?_⟩⟩
          have n2u : q2 ≠ u := wne q2 _ (wG.but (same_new hq1)) hq2
          have tG : Same G (upd (upd G q1 (.lst [.int 0, .int 0, vN p0, vN p1])) q2 (.lst (ss.map vN ++ [.int 0, .int 0, vN p0, vN p1]))) := (same_new hq1).trans (same_new hq2)
          refine ⟨u, .ref q2, _, rfl, wG.but tG, fun zz => n2u (by injection zz), .lst upd_same, by simp, by simp only [List.length_append, List.length_map, List.length_cons, List.length_nil]; omega, fun v G3 b3 w3 hv => ?_⟩
          obtain ⟨m, rfl, hm⟩ : ∃ m : Nat, v = vN m ∧ m ≤ 999 := by
            rcases List.mem_append.mp hv with hv | hv
            · obtain ⟨m, hm, rfl⟩ := List.mem_map.mp hv
              exact ⟨m, rfl, (rs m hm).2⟩
            · simp only [List.mem_cons, List.not_mem_nil, or_false] at hv
              rcases hv with rfl | rfl | rfl | rfl
              · exact ⟨0, rfl, by omega⟩
              · exact ⟨0, rfl, by omega⟩
              · exact ⟨p0, rfl, r0.2⟩
              · exact ⟨p1, rfl, r1.2⟩
          exact fin G3 ((bG.trans (But.same tG)).trans b3) w3 m hm _
      · rw [if_neg c]
        refine ⟨u, 3, rfl, wl, by decide, by decide, fun t G bG wG t0 t1 => ⟨t, rfl, ?_⟩⟩
        by_cases ct : 0 < t
        · rw [if_pos ct]
          exact fin G bG wG _ (show (0 : Nat) ≤ 999 by omega) _
        · rw [if_neg ct]
          refine ⟨_, SqL.of (bG _ _ nPu hP), _, atI_nn (by decide) rfl, _, SqL.of (bG _ _ nPu hP), _, atI_nn (by decide) rfl, by omega, fun q1 hq1 => ⟨_, same_new hq1 _ _ (bG _ _ nSu hS), _, upd_same, by simp only [List.length_map, List.length_cons, List.length_nil]; omega, fun q2 hq2 => ?_⟩⟩
          have n2u : q2 ≠ u := wne q2 _ (wG.but (same_new hq1)) hq2
          have tG : Same G (upd (upd G q1 (.lst [.int 0, .int 0, vN p0, vN p1])) q2 (.lst (ss.map vN ++ [.int 0, .int 0, vN p0, vN p1]))) := (same_new hq1).trans (same_new hq2)
          refine ⟨u, .ref q2, _, rfl, wG.but tG, fun zz => n2u (by injection zz), .lst upd_same, by simp, by simp only [List.length_append, List.length_map, List.length_cons, List.length_nil]; omega, fun v G3 b3 w3 hv => ?_⟩
          obtain ⟨m, rfl, hm⟩ : ∃ m : Nat, v = vN m ∧ m ≤ 999 := by
            rcases List.mem_append.mp hv with hv | hv
            · obtain ⟨m, hm, rfl⟩ := List.mem_map.mp hv
              exact ⟨m, rfl, (rs m hm).2⟩
            · simp only [List.mem_cons, List.not_mem_nil, or_false] at hv
              rcases hv with rfl | rfl | rfl | rfl
              · exact ⟨0, rfl, by omega⟩
              · exact ⟨0, rfl, by omega⟩
              · exact ⟨p0, rfl, r0.2⟩
              · exact ⟨p1, rfl, r1.2⟩
          exact fin G3 ((bG.trans (But.same tG)).trans b3) w3 m hm _
    rintro σ H7 ⟨hb, wl, hN, hS, hP, ds, k0, w0, hL, okd, rfl⟩
    rw [show ((n : Int)).toNat = n from by omega] at okd
    refine hU _ _ ?_
    clear hU
    refine sq fun U hU => ?_
    walk_at "rd"
    refine De.for_s (d3P H u PL SP DN DL z n far ss p0 p1 ds k0 y w0) ⟨hb, wl, hS, hP, hL, [], none, hN, rfl, fun _ q => (nomatch q), rfl⟩ ?_ ?_
    · rintro i c σ H' hc ⟨hb, wl, hS, hP, hL, ns, x0, hN, en, rn, rfl⟩
      have il := (List.getElem?_eq_some_iff.mp hc).1
      walk_at "rd"
      refine ⟨_, hS, _, hS, by rw [List.length_map]; omega, fun q1 hq1 => ?_⟩
      have g1 := same_new (o := .lst (ss.map vN ++ ss.map vN)) hq1
      refine ⟨_, SqL.of (g1 _ _ hP), _, atI_nn (by decide) rfl, _, SqL.of (g1 _ _ hP), _, atI_nn (by decide) rfl, by omega, fun q2 hq2 => ⟨_, same_new hq2 _ _ upd_same, _, upd_same, by simp only [List.length_append, List.length_map, List.length_cons, List.length_nil]; omega, fun q3 hq3 => ?_⟩⟩
      have n3u : q3 ≠ u := wne q3 _ ((wl.but g1).but (same_new hq2)) hq3
      have tG := (g1.trans (same_new (o := .lst [.int 0, vN p0, vN p1]) hq2)).trans (same_new (o := .lst (ss.map vN ++ ss.map vN ++ [.int 0, vN p0, vN p1])) hq3)
      refine ⟨u, .ref q3, _, rfl, wl.but tG, fun zz => n3u (by injection zz), .lst upd_same, by simp only [List.length_append, List.length_map, List.length_cons, List.length_nil]; omega, by simp only [List.length_append, List.length_map, List.length_cons, List.length_nil]; omega, fun v G3 b3 w3 hv => ?_⟩
      obtain ⟨m, rfl, hm⟩ : ∃ m : Nat, v = vN m ∧ m ≤ 999 := by
        rcases List.mem_append.mp hv with hv | hv
        · rcases List.mem_append.mp hv with hv | hv
          · obtain ⟨m, hm, rfl⟩ := List.mem_map.mp hv
            exact ⟨m, rfl, (rs m hm).2⟩
          · obtain ⟨m, hm, rfl⟩ := List.mem_map.mp hv
            exact ⟨m, rfl, (rs m hm).2⟩
        · simp only [List.mem_cons, List.not_mem_nil, or_false] at hv
          rcases hv with rfl | rfl | rfl
          · exact ⟨0, rfl, by omega⟩
          · exact ⟨p0, rfl, r0.2⟩
          · exact ⟨p1, rfl, r1.2⟩
      have BG := (But.same tG).trans b3
      have hNG := BG _ _ nNu hN
      have lns : ns.length = i := by
        have := congrArg List.length en
        rw [List.length_map, List.length_take] at this
        omega
      have newc : ∀ x ∈ ns.map nk, x.1 ≠ (.inr (L1 c) : Key) := fun x hx zz => by
        obtain ⟨n, hn, rfl⟩ := List.mem_map.mp hx
        have zz : (Sum.inr (L1 n.1) : Key) = .inr (L1 c) := zz
        injection zz with zz
        have e := L1_inj zz
        have m1 : n.1 ∈ z.cps.toList.take i := by rw [← en]; exact List.mem_map.mpr ⟨n, hn, rfl⟩
        obtain ⟨j, hj⟩ := List.mem_iff_getElem?.mp m1
        rw [List.getElem?_take] at hj
        split at hj
        · rename_i lj
          have := (List.pairwise_iff_getElem.mp zp) j i (List.getElem?_eq_some_iff.mp hj).1 il lj
          rw [(List.getElem?_eq_some_iff.mp hj).2, (List.getElem?_eq_some_iff.mp hc).2, e] at this
          omega
        · cases hj
      refine ⟨_, .k (k := Sum.inr (L1 c)) hNG (by rw [List.length_map]; omega), fun b o nb e => ?_, wl_put w3 nNu, ?_, ?_, ?_, ns ++ [(c, m)], _, ?_, ?_, fun n hn => ?_, rfl⟩
      · rw [upd_ne (ne_of_none e zDN)]
        exact BG _ _ nb (hb _ _ nb e)
      · rw [upd_ne nSN]; exact BG _ _ nSu hS
      · rw [upd_ne nPN]; exact BG _ _ nPu hP
      · rw [upd_ne (Ne.symm nNL)]; exact BG _ _ nLu hL
      · rw [upd_same, putK_new newc, List.map_append]; rfl
      · rw [List.map_append, en, List.take_succ, hc]; rfl
      · rcases List.mem_append.mp hn with hn | hn
        · exact rn n hn
        · rw [List.mem_singleton.mp hn]; exact hm
    rintro σ H8 ⟨hb, wl, hS, hP, hL, ns, x0, hN, en, rn, rfl⟩
    rw [List.take_length] at en
    refine hU _ _ ?_
    clear hU
    walk_at "rd"
    have lns : ns.length = z.cps.toList.length := by rw [← en, List.length_map]
    refine ⟨by omega, fun a ha => ?_⟩
    refine k a DN DL ns ds _ (fun b o nb e => ?_) (wl.but (same_new ha)) ⟨upd_same, same_new ha _ _ hN, same_new ha _ _ hL, ⟨by omega, by omega, fun m hm => ?_, List.pairwise_map.mp (by rw [en]; exact zp)⟩, Nat.le_trans okd.1 (by omega), okd.2⟩ en (wne a H8 wl ha) nNu nLu
    · exact same_new ha _ _ (hb _ _ nb e)
    · have := zr m.1 (by rw [← en]; exact List.mem_map.mpr ⟨m, hm, rfl⟩)
      exact ⟨this.1, this.2, rn m hm⟩
end
end K39

set_option Elab.async false
set_option linter.all false
set_option maxRecDepth 100000
set_option maxHeartbeats 2000000
/-! try with several clauses 'except X as n', all of one name -/
namespace Ta
open PySem PySem.Spec PyProof.Rows L2
/-- the ends of a suite behind which slot i is gone -/
def gone (i : Nat) (D : Ends) : Ends := { nx := fun σ H => D.nx (σ.set i none) H, rt := D.rt, bk := fun σ H => D.bk (σ.set i none) H, ct := fun σ H => D.ct (σ.set i none) H }
/-- what the clauses wish of an exception of the body, one behind the other -/
def wAsM (K : PySem.W.Frag) (i : Nat) (Wout : WX) (D : Ends) : List (Value × (Addr → Value → Option Addr → TS)) → WX
  | [] => Wout
  | (c, ts) :: r => fun cls d σ H => ∃ b, PySem.W.exmOne K cls c = some b ∧ (b = true → ∀ a, H a = none → ts a cls d (gone i D) (σ.set i (some (.ref a))) H) ∧ (b = false → wAsM K i Wout D r cls d σ H)
inductive HdsAs (X : Cx) (n : Str) : List ExceptHandler → List (Value × (Addr → Value → Option Addr → TS)) → Prop
  | nil : HdsAs X n [] []
  | cons {x : Str} {c : Value} {ts : Addr → Value → Option Addr → TS} {b₀ : Stmt} {suite : List Stmt} {np pos' : Pos} {hds : List ExceptHandler} {l : List (Value × (Addr → Value → Option Addr → TS))} (hc : Names X x c)
      (hsu : ∀ (a : Addr) (oe : Obj) (cls : Value) (d : Option Addr) (pn : List (Addr × Obj)), Zc cls d oe → (∃ vs, oe.data = .fields vs) → PSs (X.suite a ((a, oe) :: pn)) (b₀ :: suite) (ts a cls d)) (r : HdsAs X n hds l) :
      HdsAs X n (.ExceptHandler (some (.Name x np)) (some n) (b₀ :: suite) pos' :: hds) ((c, ts) :: l)
section
variable {X : Cx} {n : Str} {i : Nat} {body : List Stmt} {h₀ : ExceptHandler} {hds : List ExceptHandler} {l : List (Value × (Addr → Value → Option Addr → TS))} {pos : Pos} {tb : WX → TS} {Wout : WX}
/-- one clause is one try, what it lets by is the next one's: the clauses told as a test of one -/
theorem ps_try_asM (hs : X.stack = X.env :: X.outer) (hf : X.env.frame = some X.env.locals) (hN : X.N.Nodup) (hi : X.N[i]? = some n) (hln : X.env.kindOf n = some .local) (tk : Takes X Wout)
    (hb : ∀ (W : WX) (pn : List (Addr × Obj)) (xe : Value → Shared → Prop), Takes (X.tr pn xe) W → PassesOwn (model X.prog X.w) X.A X.env xe → PSs (X.tr pn xe) body (tb W))
    (hh : HdsAs X n (h₀ :: hds) l) : PS X (.Try body (h₀ :: hds) [] [] pos) (fun D σ H => tb (wAsM X.K i Wout D l) D σ H) := by
  refine ⟨fun pins s σ H D I h => ?_⟩
  have ok := I.ok
  have hfr : X.A.frames = some (X.env :: X.outer) := by rw [ok.frames, hs]
  have hloc : Loc X.env.scope n := .inl hln
  refine wpAny_Try_except ?_
  refine wpAny_mono ((hb (wAsM X.K i Wout D l) (X.pn ++ pins) (fun e s₁ => wpAny (model X.prog X.w) X.A (noteFrame e X.env) (fun _ s₂ => wpAny (model X.prog X.w) X.A (setFlight e none) (fun _ s₃ =>
    wpAny (model X.prog X.w) X.A (handleBy e X.env (h₀ :: hds)) (SP X pins D) X.xe s₃) X.xe s₂) X.xe s₁) (fun u s' xx => ?_) PassesOwn.looking).run [] s σ H D (I.toTry _) h) (fun f s1 hsp => ?_) (fun e s1 he => he)
  · obtain ⟨a, B, sI, pins', σ', H', cls, d, rfl, J', nb, up, sky, na, os, ag, wish⟩ := xx
    have J : Inv X pins σ' H' sI := J'.ofTry ok
    have sky' : Sky B (X.env :: X.outer) a (Zc cls d) X.env.locals s'.heap := by rw [← hs]; exact sky
    show wpAny (model X.prog X.w) X.A (noteFrame (.ref a) X.env) _ _ _
    refine Sky.land Zc.steady hfr hf sky' fun h3 fl3 up3 => ?_
    have J3 : Inv X pins σ' H' { s' with heap := h3 } := J.landed nb fl3.1 (up.trans up3) os ag
    obtain ⟨oe3, vs3, he3, hz3, hd3⟩ := fl3.there
    have notFr : ∀ {h : Heap} {o : Obj} {vs : Array Value}, h.FunFrames B (X.env :: X.outer) → h.get? a = some o → o.data = .fields vs → a ∉ frs (X.env :: X.outer) := fun {h o vs} ff e dd hm => by
      obtain ⟨_, o', e', hnf⟩ := ff.mem hm
      rw [e] at e'; cases e'
      exact hnf _ dd
    have nfr := notFr fl3.2.2.1 he3 hd3
    have nL : a ≠ X.env.locals := fun z => nfr (List.mem_filterMap.mpr ⟨X.env, List.mem_cons_self, by rw [hf, z]⟩)
    have nF : a ∉ X.fs := fun hm => by
      obtain ⟨e, he, q⟩ := List.mem_filterMap.mp hm
      exact nfr (List.mem_filterMap.mpr ⟨e, List.mem_cons_of_mem _ he, q⟩)
    have S3 := J3.suite he3 hd3 na nL nF
    have go : ∀ {hds' : List ExceptHandler} {l' : List (Value × (Addr → Value → Option Addr → TS))}, HdsAs X n hds' l' → wAsM X.K i Wout D l' cls d σ' H' →
        wpAny (model X.prog X.w) X.A (handleBy (.ref a) X.env hds') (SP X pins D) X.xe { s' with heap := h3 } := by
      intro hds' l' hk
      induction hk with
      | nil =>
        intro wish
        refine wpAny_handleBy_nil ?_
        obtain ⟨k1, k2, k3, oe, vs, T, oT, ts', he, hz, hd, h1, hr⟩ := id fl3
        unfold PySem.passOn
        refine wpAny_bind (wpAny_field he hd h1 ?_)
        rw [if_neg (show ¬ ((Value.ref T == Value.none) = true) from by simp)]
        have fin : wpAny (model X.prog X.w) X.A (setFlight (.ref a) X.env.frame) (fun _ s4 => wpAny (model X.prog X.w) X.A (throw (.ref a) : Sem Flow) (SP X pins D) X.xe s4) X.xe { s' with heap := h3 } := by
          rw [hf]
          refine HandSPX.setFlight_upZ fl3 fun h4 hh4 up4 => wpAny_throw (tk _ _ ?_)
          exact ⟨a, B, sI, pins, σ', H', cls, d, rfl, J, nb, (up.trans up3).trans up4, .inr (.inr (by rw [hs]; exact hh4)), na, os, ag, wish⟩
        first
          | exact wpAny_bind (wpAny_pure (wpAny_bind fin))
          | exact wpAny_bind fin
      | @cons x c ts b₀ suite np pos' hds2 l2 hc hsu r ih =>
        intro wish
        obtain ⟨b, hb1, hyes, hno⟩ := wish
        refine wpAny_handleBy_cons (codeAny_handlers_test ?_) (by intro q; cases q)
        have LT : PySem.W.Looks (model X.prog X.w) h3 (typeOf (.ref a)) cls := fun A Q E s k q => wpAny_typeOf_ref (k _ _ he3) (by rw [hz3.1]; exact q)
        have LM := PySem.W.exm_one (M := model X.prog X.w) (J3.kIn) LT hb1
        have test : ∀ {Q : Value → Shared → Prop} {E : Value → Shared → Prop}, Q c { s' with heap := h3 } → wpAny (model X.prog X.w) (X.A.mark (some (.ref a))) (eval (.Name x np) X.env) Q E { s' with heap := h3 } := fun {Q E} q => by
          obtain ⟨hg, hdbg, hm | ⟨hm, hv, hnn⟩⟩ := hc
          · exact ld_glob (X := X.suite a ((a, oe3) :: (X.pn ++ pins))) S3 hg hm q hdbg
          · exact ld_blt (X := X.suite a ((a, oe3) :: (X.pn ++ pins))) S3 hg hm hv q hnn hdbg
        refine test (LM.here ?_)
        cases b with
        | true =>
          refine codeAny_handlers_suite_as ?_
          refine HandSPX.lands_againZ fl3 fun h4 fl4 up4 => ?_
          have J4 : Inv X pins σ' H' { s' with heap := h4 } := J.landed nb fl4.1 ((up.trans up3).trans up4) os ag
          obtain ⟨oe4, vs4, he4, hz4, hd4⟩ := fl4.there
          have S4 := J4.suite he4 hd4 na nL nF
          refine store_ok (X := X.suite a ((a, oe4) :: (X.pn ++ pins))) (v := .ref a) S4 hN hi hloc rfl (fun s5 S5 => ?_) (.inr hln)
          refine wpAny_mono ((hsu a oe4 cls d (X.pn ++ pins) hz4 ⟨_, hd4⟩).run [] s5 _ H' _ S5 (hyes rfl a na)) (fun f s6 hsp => ?_) (fun _ _ z => False.elim z)
          have end_ : ∀ {σ6 : L2.St} {H6 : Hp} {Q : Shared → Prop}, Inv (X.suite a ((a, oe4) :: (X.pn ++ pins))) [] σ6 H6 s6 → (∀ s7, Inv X pins (σ6.set i none) H6 s7 → Q s7) →
              wpAny (model X.prog X.w) X.A (do bindName X.env n .none; unbindBehindTheSuite X.env n pos') (fun _ s7 => Q s7) X.xe s6 := fun {σ6 H6 Q} S6 hq => gone_ok (S6.unsuite ok) hN hi hln hq
          cases f with
          | next =>
            obtain ⟨σ6, H6, S6, q6⟩ := hsp
            exact end_ S6 fun s7 J7 => ⟨_, _, J7, q6⟩
          | brk =>
            obtain ⟨σ6, H6, S6, q6⟩ := hsp
            exact end_ S6 fun s7 J7 => ⟨_, _, J7, q6⟩
          | cont =>
            obtain ⟨σ6, H6, S6, q6⟩ := hsp
            exact end_ S6 fun s7 J7 => ⟨_, _, J7, q6⟩
          | ret u =>
            obtain ⟨v6, σ6, H6, S6, r6, q6⟩ := hsp
            exact end_ S6 fun s7 J7 => ⟨_, _, _, J7, r6, q6⟩
        | false =>
          show wpAny _ X.A (handleBy (.ref a) X.env hds2) _ _ _
          exact ih (hno rfl)
    exact go hh wish
  · cases f with
    | next =>
      obtain ⟨σ', H', J', q⟩ := hsp
      exact wpAny_execs_nil ⟨σ', H', J'.ofTry ok, q⟩
    | brk =>
      obtain ⟨σ', H', J', q⟩ := hsp
      exact ⟨σ', H', J'.ofTry ok, q⟩
    | cont =>
      obtain ⟨σ', H', J', q⟩ := hsp
      exact ⟨σ', H', J'.ofTry ok, q⟩
    | ret u =>
      obtain ⟨v, σ', H', J', r, q⟩ := hsp
      exact ⟨v, σ', H', J'.ofTry ok, r, q⟩
theorem wAsM_nil {K : PySem.W.Frag} {D : Ends} {cls : Value} {d : Option Addr} {σ : L2.St} {H : Hp} : wAsM K i Wout D [] cls d σ H = Wout cls d σ H := rfl
theorem wAsM_cons {K : PySem.W.Frag} {D : Ends} {c cls : Value} {ts : Addr → Value → Option Addr → TS} {r : List (Value × (Addr → Value → Option Addr → TS))} {d : Option Addr} {σ : L2.St} {H : Hp} : wAsM K i Wout D ((c, ts) :: r) cls d σ H =
    ∃ b, PySem.W.exmOne K cls c = some b ∧ (b = true → ∀ a, H a = none → ts a cls d (gone i D) (σ.set i (some (.ref a))) H) ∧ (b = false → wAsM K i Wout D r cls d σ H) := rfl
end
end Ta

set_option Elab.async false
set_option linter.all false
set_option maxRecDepth 100000
set_option maxHeartbeats 4000000
namespace K39
open PySem PySem.Spec PyProof.Rows L2 Rd Dt Dq Pk Ln En Sx Sy So Sr Lk TL
open K39S (StA StB StM LSt HpA HpB spMade spTxt map_at kit_self sorted_names keys_n keys_c get_n get_d DcOk asc_nodup nuP nuP_step vN)
local macro_rules | `(tactic| walk_at "rd") => `(tactic| try simp only [↓De.tFor_str, ↓Lk.tLockE_, ↓Lk.tLock_, ↓Lk.tLc_keys, ↓Lk.tFor_keys, ↓Sy.tTupP_, ↓Sy.rTupP_, ↓Sy.rCatP_, ↓Sy.rSlP_, ↓Sy.rDictT_, ↓Sy.tDGet_, ↓Sy.tDGet1_, ↓Sy.tDIn_, ↓Sy.tDNotIn_, ↓Sy.tMeth_, ↓Sy.tMethKw_, ↓Sy.rSortedS_, ↓Sx.rIsT_, ↓En.tFor_enumT, ↓Sy.tFor_enumL, ↓Rv.tMakeKw_, ↓Prp.tProp_, ↓Lo.tBits_, ↓Lo.tJs_n, ↓Lo.tJs_c, ↓Lo.tFmt_, ↓Lo.gFld_, ↓Lo.tMake_, ↓Lo.rOwn_, ↓Rg.tFor_range3, ↓Rg.tLc_range3, ↓Rg.tLstC_, ↓Rg.tLc_rngV, ↓Le.rNeLE_, ↓Le.rEqLE_, ↓Ls.tLc_str, ↓Ls.sDPut_, ↓Rl.rReprL_, ↓Rl.tCallKS_, ↓Ob.tFld_, ↓Ob.sFld_, ↓tVar_, ↓tC_, ↓tM1, ↓tDNewK_, ↓tOp_, ↓tUn_, ↓rI_, ↓rI0_, ↓rU_, ↓eq_ii, ↓ne_ii, ↓eq_ss, ↓ne_ss, ↓eq_bb, ↓ne_bb, ↓tAndV_, ↓tOrV_, ↓tNotV_, ↓tIf_, ↓tTest_, ↓tB_, ↓tAnd_, ↓tOr_, ↓tNot_, ↓tChain_, ↓tNil_, ↓tCons_, ↓tTup_, ↓tLst_, ↓tCB_, ↓tCall_, ↓tSeq_, ↓tNext_, ↓tRet_, ↓tRetN_, ↓tDrop_, ↓tBreak_, ↓tNever_, ↓tIfS_, ↓tAsg_, ↓gName_, ↓gTup_, ↓gCons_, ↓gNil_, ↓gSub_, ↓tPar_, ↓tPar3_, ↓tSl_, ↓tNoPart_, ↓tPart_, ↓tBM_, ↓tFor_range1, ↓tFor_range2, ↓tFor_list, ↓tFor_tup, L2.start, List.headD_cons, List.headD_nil, List.tail_cons, List.map_cons, List.map_nil, List.length_cons, List.length_nil, List.replicate, List.append_nil, List.nil_append, List.cons_append, List.getElem?_cons_zero, List.getElem?_cons_succ, List.set_cons_zero, List.set_cons_succ, Option.some.injEq, V.int.injEq, V.bl.injEq, V.str.injEq, V.ref.injEq, exists_eq_left, exists_eq_left', exists_eq_right, exists_eq, exists_and_left, and_true, true_and, decide_eq_true_eq, Nat.reduceAdd, Nat.reduceSub, Nat.add_zero, Nat.zero_add, List.cons.injEq, Bool.not_eq_true', decide_eq_false_iff_not, eq_self, reduceCtorEq, Bool.false_eq_true, if_true, if_false, ite_true, ite_false, and_self, ↓tLc_range1, ↓tLc_range2, ↓tLc_list, ↓tLc_tup, ↓tYes_, wipe0, wipe1, ↓tCallS_, ↓rIxL_, ↓rIxT_, ↓rSlL_, ↓rCat_, ↓rSetL_, ↓rRep_, ↓rGcd_, ↓tCallK_, ↓gUnl_, ↓tRaise_, decide_true, decide_false, not_true_eq_false, not_false_eq_true, false_and, or_false, false_or, and_false, and_assoc, exists_const, forall_const, forall_eq'])
section
variable {P : Program} {w : World} {K : PySem.W.Frag} {mg : Str → Option Value} {base : Heap}
/-! ### what is told -/
structure Exm (K : PySem.W.Frag) (CN CD CU CM CF CA : Addr) : Prop where
  nn : PySem.W.exmOne K (.ref CN) (.ref CN) = some true
  dn : PySem.W.exmOne K (.ref CD) (.ref CN) = some false
  dd : PySem.W.exmOne K (.ref CD) (.ref CD) = some true
  un : PySem.W.exmOne K (.ref CU) (.ref CN) = some false
  ud : PySem.W.exmOne K (.ref CU) (.ref CD) = some false
  uu : PySem.W.exmOne K (.ref CU) (.ref CU) = some true
  mn : PySem.W.exmOne K (.ref CM) (.ref CN) = some false
  md : PySem.W.exmOne K (.ref CM) (.ref CD) = some false
  mu : PySem.W.exmOne K (.ref CM) (.ref CU) = some false
  mm : PySem.W.exmOne K (.ref CM) (.ref CM) = some true
  fn : PySem.W.exmOne K (.ref CF) (.ref CN) = some false
  fd : PySem.W.exmOne K (.ref CF) (.ref CD) = some false
  fu : PySem.W.exmOne K (.ref CF) (.ref CU) = some false
  fm : PySem.W.exmOne K (.ref CF) (.ref CM) = some false
  ff : PySem.W.exmOne K (.ref CF) (.ref CF) = some true
  fa : PySem.W.kitOne K (.ref CF) (.ref CA) = some true
def Rt (H : Hp) (Q : VK) (xs : List V) : Prop := ∀ D H', Same H H' → H' D = some (.lst xs) → Q (.ref D) H'
def spTold (K : PySem.W.Frag) (C : Addr) : Sp := fun vs H Q _ => ∃ (x y : V) (b : Bool) (d : PyData), vs = [x, y, .bl b] ∧ ((∃ e, Dq K H x e ∧ Rt H Q [.str "store", x]) ∨ (∃ (r : Addr) (ns cs : List (Nat × Nat)), x = .ref r ∧ StA K C H r ns cs ∧ Dq K H y d ∧ (isDeed d = false → Rt H Q [.str "deed", y]) ∧
  (∀ dd : Dd.Deed, d = dd.data → DeedL dd → (∀ s, miss ns (letL dd.words) = some s → Rt H Q [.str "name", .str s]) ∧ (miss ns (letL dd.words) = none → (100 < cs.length → Rt H Q [.str "many", .int (cs.length : Nat)]) ∧
    (cs.length ≤ 100 → (Dd.act dd ns cs (cs.map (·.1)) = none → Rt H Q [.str "failed", y, .bl true]) ∧ (∀ p n1 c1, Dd.act dd ns cs (cs.map (·.1)) = some (p, n1, c1) → ∀ r' D H', Same H H' → StA K C H' r' n1 (srt c1) → H' D = some (.lst [.str "done", .ref r']) → Q (.ref D) H'))))))
theorem sc_told : FnScope ["_law_first", "_law_second", "_law_is_named", "e"] ["_law_first", "_law_second", "_law_is_named"] (defScope (top 53)) := ⟨rfl, rfl, rfl, by decide +kernel, rfl, by decide +kernel, by decide +kernel⟩
theorem ok_told {C CN CD CU CM CF CA f1I f2I f3I f4I f5I : Addr} {d1I d2I d3I d4I d5I : FuncData} (T : Th mg) (R1 : ErS K mg CN f1I d1I) (R2 : ErD K mg CD f2I d2I) (R3 : ErU K mg CU f3I d3I) (R4 : ErM K mg CM f4I d4I) (R5 : ErF K mg CF f5I d5I) (XF1 : XfC K CN) (XF2 : XfC K CD) (XF3 : XfC K CU) (XF4 : XfC K CM) (XF5 : XfC K CF) (XE : ExcC K CF) (EM : Exm K CN CD CU CM CF CA) (gArr : mg "ArrowError" = some (.ref CA))
    {f : Addr} {fd : FuncData} (F : FD K "_law_told" (top 53) f fd) {f1 : Addr} {fd1 : FuncData} (C1 : Cal P w K mg base (L2.CX P w) 8 "done" ["store", "deed"] (spDone K C CN CD CU CM CF) f1 fd1) (wdone : KW K fd1 ["store", "deed"]) : FnOk P w K mg base CX0 9 f fd ["_law_first", "_law_second", "_law_is_named"] (spTold K C) := by
  obtain ⟨gdone, kdone, bdone, Fdone⟩ := C1
  refine F.ok sc_told (fun vs H Q E h => ?_) (fun cdv A outer s' H vs Q E hr h => ?_)
  · obtain ⟨_, _, _, _, rfl, _⟩ := h
    rfl
  · obtain ⟨x, y, b, d, rfl, h⟩ := h
    have nd := sc_told.nd
    refine ⟨_, (pss_one (Ta.ps_try_asM (i := 3) rfl rfl nd rfl rfl takes0 (fun W pn xe tk _ => (pss_one (ps_ret (pe_lst (pa_cons pe_str (pa_cons (pe_ifExp (pt_val (pv 2)) (Rl.pe_callKwS Fdone (hr.mono (by omega)) rfl gdone kdone wdone (fun σ => passAt tk σ) (pk_cons (pv 0) (pk_cons (pv 1) pk_nil))) (pe_callS Fdone (hr.mono (by omega)) rfl gdone kdone bdone (fun σ => passAt tk σ) (pa_cons (pv 0) (pa_cons (pv 1) pa_nil)))) pa_nil))))))
        (.cons ⟨rfl, by decide, .inl R1.gC⟩ (fun a oe cls d pn hz hf => (pss_one (ps_ret (pe_lst (pa_cons pe_str (pa_cons (pe_xf XF1 R1.noN hz hf (pv 3)) pa_nil))))))
        (.cons ⟨rfl, by decide, .inl R2.gC⟩ (fun a oe cls d pn hz hf => (pss_one (ps_ret (pe_lst (pa_cons pe_str (pa_cons (pe_xf XF2 R2.noN hz hf (pv 3)) pa_nil))))))
        (.cons ⟨rfl, by decide, .inl R3.gC⟩ (fun a oe cls d pn hz hf => (pss_one (ps_ret (pe_lst (pa_cons pe_str (pa_cons (pe_xf XF3 R3.noN hz hf (pv 3)) pa_nil))))))
        (.cons ⟨rfl, by decide, .inl R4.gC⟩ (fun a oe cls d pn hz hf => (pss_one (ps_ret (pe_lst (pa_cons pe_str (pa_cons (pe_xf XF4 R4.noN hz hf (pv 3)) pa_nil))))))
        (.cons ⟨rfl, by decide, .inl R5.gC⟩ (fun a oe cls d pn hz hf => (pss_one (ps_ret (pe_lst (pa_cons pe_str (pa_cons (pe_xf XF5 R5.noN hz hf (pv 3)) (pa_cons (pe_callB (Exx.call_isX XE hz hf) (by rfl) T.b_isinstance (by decide +kernel) (pa_cons (pv 3) (pa_cons (pe_glob (v := .ref CA) rfl gArr rfl) pa_nil))) pa_nil)))))))
        .nil))))))), ?_⟩
    walk_at "rd"
    have lk : ∀ x : V, List.lookup ("given" : Str) [(("given" : Str), x)] = some x := fun x => by simp [List.lookup]
    rw [ite_self]
    refine ⟨x, y, d, rfl, ?_⟩
    rcases h with ⟨e, he, q⟩ | ⟨r, ns, cs, rfl, hst, hy, k0, k1⟩
    · refine .inl ⟨e, he, fun dd H2 s2 hd => ⟨true, EM.nn, fun _ a' ha' => ?_, (fun z => nomatch z)⟩⟩
      walk_at "rd"
      have s3 : Same H (upd H2 dd (.xd [("given", x)])) := s2.trans (same_new hd)
      exact ⟨_, rfl, rfl, rfl, dd, [("given", x)], x, rfl, upd_same, lk x, by decide, fun D hD => q D _ (s3.trans (same_new hD)) upd_same⟩
    refine .inr ⟨r, ns, cs, rfl, hst, hy, fun e dd H2 s2 hd => ⟨false, EM.dn, (fun z => nomatch z), fun _ => ⟨true, EM.dd, fun _ a' ha' => ?_, (fun z => nomatch z)⟩⟩, fun dd ed hL => ?_⟩
    · walk_at "rd"
      have s3 : Same H (upd H2 dd (.xd [("given", y)])) := s2.trans (same_new hd)
      exact ⟨_, rfl, rfl, rfl, dd, [("given", y)], y, rfl, upd_same, lk y, by decide, fun D hD => k0 e D _ (s3.trans (same_new hD)) upd_same⟩
    obtain ⟨m1, m2⟩ := k1 dd ed hL
    refine ⟨fun s em dd H2 s2 hd => ⟨false, EM.un, (fun z => nomatch z), fun _ => ⟨false, EM.ud, (fun z => nomatch z), fun _ => ⟨true, EM.uu, fun _ a' ha' => ?_, (fun z => nomatch z)⟩⟩⟩, fun em => ?_⟩
    · walk_at "rd"
      have s3 : Same H (upd H2 dd (.xd [("given", .str s)])) := s2.trans (same_new hd)
      exact ⟨_, rfl, rfl, rfl, dd, [("given", .str s)], .str s, rfl, upd_same, lk _, by decide, fun D hD => m1 s em D _ (s3.trans (same_new hD)) upd_same⟩
    obtain ⟨m3, m4⟩ := m2 em
    refine ⟨fun hg dd H2 s2 hd => ⟨false, EM.mn, (fun z => nomatch z), fun _ => ⟨false, EM.md, (fun z => nomatch z), fun _ => ⟨false, EM.mu, (fun z => nomatch z), fun _ => ⟨true, EM.mm, fun _ a' ha' => ?_, (fun z => nomatch z)⟩⟩⟩⟩, fun hl => ?_⟩
    · walk_at "rd"
      have s3 : Same H (upd H2 dd (.xd [("given", .int (cs.length : Nat))])) := s2.trans (same_new hd)
      exact ⟨_, rfl, rfl, rfl, dd, [("given", .int (cs.length : Nat))], .int (cs.length : Nat), rfl, upd_same, lk _, by decide, fun D hD => m3 hg D _ (s3.trans (same_new hD)) upd_same⟩
    obtain ⟨m5, m6⟩ := m4 hl
    refine ⟨fun ea dd H2 s2 hd => ⟨false, EM.fn, (fun z => nomatch z), fun _ => ⟨false, EM.fd, (fun z => nomatch z), fun _ => ⟨false, EM.fu, (fun z => nomatch z), fun _ => ⟨false, EM.fm, (fun z => nomatch z), fun _ => ⟨true, EM.ff, fun _ a' ha' => ?_, (fun z => nomatch z)⟩⟩⟩⟩⟩, fun p n1 c1 ea r' H2 s2 st => ⟨by decide, fun D hD => ?_⟩⟩
    · walk_at "rd"
      have s3 : Same H (upd H2 dd (.xd [("given", y)])) := s2.trans (same_new hd)
      refine ⟨_, rfl, rfl, rfl, dd, [("given", y)], y, rfl, upd_same, lk _, .ref CA, .ref CA, true, dd, _, rfl, rfl, (fun u hu => hu), rfl, upd_same, EM.fa, by decide, fun D hD => m5 ea D _ (s3.trans (same_new hD)) upd_same⟩
    · exact m6 p n1 c1 ea r' D _ (s2.trans (same_new hD)) (st.up (same_new hD)) upd_same
end
end K39

set_option Elab.async false
set_option linter.all false
set_option maxRecDepth 100000
set_option maxHeartbeats 4000000
namespace K39
open PySem PySem.Spec PyProof.Rows L2 Rd Dt Dq Pk Ln En Sx Sy So Sr Lk TL
open K39S (StA StB StM LSt HpA HpB spMade spTxt map_at kit_self sorted_names keys_n keys_c get_n get_d DcOk asc_nodup nuP nuP_step vN)
local macro_rules | `(tactic| walk_at "rd") => `(tactic| try simp only [↓De.tFor_str, ↓Lk.tLockE_, ↓Lk.tLock_, ↓Lk.tLc_keys, ↓Lk.tFor_keys, ↓Sy.tTupP_, ↓Sy.rTupP_, ↓Sy.rCatP_, ↓Sy.rSlP_, ↓Sy.rDictT_, ↓Sy.tDGet_, ↓Sy.tDGet1_, ↓Sy.tDIn_, ↓Sy.tDNotIn_, ↓Sy.tMeth_, ↓Sy.tMethKw_, ↓Sy.rSortedS_, ↓Sx.rIsT_, ↓En.tFor_enumT, ↓Sy.tFor_enumL, ↓Rv.tMakeKw_, ↓Prp.tProp_, ↓Lo.tBits_, ↓Lo.tJs_n, ↓Lo.tJs_c, ↓Lo.tFmt_, ↓Lo.gFld_, ↓Lo.tMake_, ↓Lo.rOwn_, ↓Rg.tFor_range3, ↓Rg.tLc_range3, ↓Rg.tLstC_, ↓Rg.tLc_rngV, ↓Le.rNeLE_, ↓Le.rEqLE_, ↓Ls.tLc_str, ↓Ls.sDPut_, ↓Rl.rReprL_, ↓Rl.tCallKS_, ↓Ob.tFld_, ↓Ob.sFld_, ↓tVar_, ↓tC_, ↓tM1, ↓tDNewK_, ↓tOp_, ↓tUn_, ↓rI_, ↓rI0_, ↓rU_, ↓eq_ii, ↓ne_ii, ↓eq_ss, ↓ne_ss, ↓eq_bb, ↓ne_bb, ↓tAndV_, ↓tOrV_, ↓tNotV_, ↓tIf_, ↓tTest_, ↓tB_, ↓tAnd_, ↓tOr_, ↓tNot_, ↓tChain_, ↓tNil_, ↓tCons_, ↓tTup_, ↓tLst_, ↓tCB_, ↓tCall_, ↓tSeq_, ↓tNext_, ↓tRet_, ↓tRetN_, ↓tDrop_, ↓tBreak_, ↓tNever_, ↓tIfS_, ↓tAsg_, ↓gName_, ↓gTup_, ↓gCons_, ↓gNil_, ↓gSub_, ↓tPar_, ↓tPar3_, ↓tSl_, ↓tNoPart_, ↓tPart_, ↓tBM_, ↓tFor_range1, ↓tFor_range2, ↓tFor_list, ↓tFor_tup, L2.start, List.headD_cons, List.headD_nil, List.tail_cons, List.map_cons, List.map_nil, List.length_cons, List.length_nil, List.replicate, List.append_nil, List.nil_append, List.cons_append, List.getElem?_cons_zero, List.getElem?_cons_succ, List.set_cons_zero, List.set_cons_succ, Option.some.injEq, V.int.injEq, V.bl.injEq, V.str.injEq, V.ref.injEq, exists_eq_left, exists_eq_left', exists_eq_right, exists_eq, exists_and_left, and_true, true_and, decide_eq_true_eq, Nat.reduceAdd, Nat.reduceSub, Nat.add_zero, Nat.zero_add, List.cons.injEq, Bool.not_eq_true', decide_eq_false_iff_not, eq_self, reduceCtorEq, Bool.false_eq_true, if_true, if_false, ite_true, ite_false, and_self, ↓tLc_range1, ↓tLc_range2, ↓tLc_list, ↓tLc_tup, ↓tYes_, wipe0, wipe1, ↓tCallS_, ↓rIxL_, ↓rIxT_, ↓rSlL_, ↓rCat_, ↓rSetL_, ↓rRep_, ↓rGcd_, ↓tCallK_, ↓gUnl_, ↓tRaise_, decide_true, decide_false, not_true_eq_false, not_false_eq_true, false_and, or_false, false_or, and_false, and_assoc, exists_const, forall_const, forall_eq'])
section
variable {P : Program} {w : World} {K : PySem.W.Frag} {mg : Str → Option Value} {base : Heap}
/-! ### a great store -/
def spGreat : Sp := fun vs H Q _ => ∃ (u : Addr) (z : Str), vs = [.ref u, .str z] ∧ WellAt H u ∧ z.cps.toList.Pairwise (· < ·) ∧ (∀ c ∈ z.cps.toList, 97 ≤ c ∧ c ≤ 122) ∧ 1 ≤ z.cps.toList.length ∧ z.cps.toList.length ≤ 4 ∧
  ∀ (a dn dc : Addr) (ns ds : List (Nat × Nat)) (H' : Hp), But u H H' → WellAt H' u → LSt 101 H' a dn dc ns ds → ns.map (·.1) = z.cps.toList → a ≠ u → dn ≠ u → dc ≠ u → Q (.ref a) H'
def g1P (H : Hp) (u DN DL : Addr) (z : Str) (n : Nat) (i : Nat) : L2.St → Hp → Prop := fun σ H' => But u H H' ∧ WellAt H' u ∧ H' DN = some (.dK []) ∧ ∃ (ds : List (Nat × Nat)) (k : Option V), H' DL = some (.dK (ds.map ck)) ∧ DcOk i ds ∧
  σ = [some (.ref u), some (.str z), some (.int n), some (.ref DN), some (.ref DL), k, none]
def g2P (H : Hp) (u DN DL : Addr) (z : Str) (n : Nat) (ds : List (Nat × Nat)) (k : Option V) (i : Nat) : L2.St → Hp → Prop := fun σ H' => But u H H' ∧ WellAt H' u ∧ H' DL = some (.dK (ds.map ck)) ∧ ∃ (ns : List (Nat × Nat)) (x : Option V), H' DN = some (.dK (ns.map nk)) ∧ ns.map (·.1) = z.cps.toList.take i ∧ (∀ n ∈ ns, n.2 ≤ 999) ∧
  σ = [some (.ref u), some (.str z), some (.int n), some (.ref DN), some (.ref DL), k, x]
theorem sc_great : FnScope ["_law_well_here", "_law_signs", "_law_often", "_law_homes", "_law_links", "_law_k", "_law_sign"] ["_law_well_here", "_law_signs"] (defScope (top 51)) := ⟨rfl, rfl, rfl, by decide +kernel, rfl, by decide +kernel, by decide +kernel⟩
theorem ok_great {f : Addr} {fd : FuncData} (T : Th mg) (F : FD K "_law_great" (top 51) f fd) {f1 f2 : Addr} {fd1 fd2 : FuncData} (C1 : Cal P w K mg base CX0 1 "_law_take" ["_law_well_here", "_law_limit"] spTake f1 fd1) (C2 : Cal P w K mg base CX0 2 "_law_pick" ["_law_well_here", "_law_some"] spPick f2 fd2) : FnOk P w K mg base CX0 3 f fd ["_law_well_here", "_law_signs"] spGreat := by
  obtain ⟨g_law_take, k_law_take, b_law_take, F_law_take⟩ := C1
  obtain ⟨g_law_pick, k_law_pick, b_law_pick, F_law_pick⟩ := C2
  refine F.ok sc_great (fun vs H Q E h => ?_) (fun cdv A outer s H vs Q E hr h => ?_)
  · obtain ⟨_, _, rfl, _⟩ := h
    rfl
  · obtain ⟨u, z, rfl, hw, zp, zr, z1, z4, k⟩ := h
    have nd := sc_great.nd
    have zl : (1000000 : Nat) ≤ sizeLine := line_big
    have wne : ∀ N (H' : Hp), WellAt H' u → H' N = none → N ≠ u := fun N H' w' hn q => by
      obtain ⟨_, _, _, e⟩ := w'
      rw [q, e] at hn
      cases hn
    refine ⟨_, (pss_cons (ps_par3 rfl nd (i := 2) (j := 3) (l := 4) rfl rfl rfl (by decide) (by decide) (by decide) rfl rfl rfl (pa_cons (pe_op op_add pe_int (pe_call F_law_take (hr.mono (by omega)) rfl g_law_take k_law_take b_law_take .nil pass0 (pa_cons (pv 0) (pa_cons pe_int pa_nil)))) (pa_cons pe_dnewK (pa_cons pe_dnewK pa_nil))) rfl)
        (pss_cons (ps_for (passes_of rfl) rfl (pi_range1 rfl T.b_range (pa_cons (pv 2) pa_nil)) (pg_name (i := 5) nd rfl (Or.inl rfl)) (pss_one (ps_dput (hu_of hr) (pv 4) (pe_op op_add (pv 5) pe_int) (pe_ifExp (pt_cmpR op_lt (pe_op op_add (pv 5) pe_int) (pv 2) (nomark _)) (pe_op op_add (pv 5) pe_int) (pe_call F_law_pick (hr.mono (by omega)) rfl g_law_pick k_law_pick b_law_pick .nil pass0 (pa_cons (pv 0) (pa_cons (pe_tup (pa_cons pe_int (pa_cons pe_int (pa_cons pe_int (pa_cons pe_int pa_nil))))) pa_nil)))) rfl)))
        (pss_cons (ps_for (passes_of rfl) rfl (pi_str (pv 1)) (pg_name (i := 6) nd rfl (Or.inl rfl)) (pss_one (ps_dput (hu_of hr) (pv 3) (pv 6) (pe_call F_law_pick (hr.mono (by omega)) rfl g_law_pick k_law_pick b_law_pick .nil pass0 (pa_cons (pv 0) (pa_cons (pe_tup (pa_cons pe_int (pa_cons pe_int (pa_cons pe_int (pa_cons pe_int (pa_cons (pv 2) (pa_cons pe_int pa_nil))))))) pa_nil))) rfl)))
        (pss_one (ps_ret (pe_lst (pa_cons (pv 3) (pa_cons (pv 4) pa_nil)))))))), ?_⟩
    refine sq fun U hU => ?_
    walk_at "rd"
    refine ⟨u, 2, rfl, hw, by decide, by decide, fun n H1 b1 w1 n0 n3 => ⟨n, rfl, fun DN hDN DL hDL => hU _ _ ?_⟩⟩
    obtain ⟨n, rfl⟩ : ∃ m : Nat, n = m := ⟨n.toNat, by omega⟩
    have nNu : DN ≠ u := wne DN _ w1 hDN
    have t1 := same_new (o := .dK []) hDN
    have nLu : DL ≠ u := wne DL _ (w1.but t1) hDL
    have t2 := same_new (o := .dK []) hDL
    have t := t1.trans t2
    have nNL : DN ≠ DL := ne_of_none (o := .dK []) upd_same hDL
    have hN5 := t2 _ _ (upd_same (H := H1) (a := DN) (o := .dK []))
    have hL5 : upd (upd H1 DN (.dK [])) DL (.dK []) DL = some (.dK []) := upd_same
    have B5 := b1.trans (But.same t)
    have w5 := w1.but t
    have zDN : H DN = none := but_none b1 w1 hDN
    have zDL : H DL = none := but_none (b1.trans (But.same t1)) (w1.but t1) hDL
    generalize upd (upd H1 DN (.dK [])) DL (.dK []) = H5 at hN5 hL5 B5 w5 ⊢
    clear hU b1 w1 t1 t2 t hDN hDL
    refine sq fun U hU => ?_
    walk_at "rd"
    refine ⟨by omega, by omega, for_r (g1P H u DN DL z (100 + n)) ⟨B5, w5, hN5, [], none, hL5, ⟨Nat.le_refl _, fun _ q => (nomatch q), List.nodup_nil⟩, rfl⟩ ?_ ?_⟩
    · rintro i σ H' hi ⟨hb, wl, hN, ds, k0, hL, okd, rfl⟩
      have hi2 : i < 100 + n := by omega
      have lds := okd.1
      walk_at "rd"
      have fin : ∀ (G : Hp) (bG : But u H' G) (wG : WellAt G u) (v : Nat), v ≤ 999 → ∃ x, DPut G DL (.int (0 + (i : Int) + 1)) (.int (v : Nat)) x ∧ g1P H u DN DL z (100 + n) (i + 1) [some (.ref u), some (.str z), some (.int ((100 + n : Nat) : Int)), some (.ref DN), some (.ref DL), some (.int (0 + i)), none] x := fun G bG wG v hv => by
        have hLG := bG _ _ nLu hL
        have ek : (0 + (i : Int) + 1) = ((i + 1 : Nat) : Int) := by omega
        rw [ek]
        refine ⟨_, .k (k := Sum.inl ((i + 1 : Nat) : Int)) hLG (by rw [List.length_map]; omega), fun b o nb e => ?_, wl_put wG nLu, ?_, K39S.putN ds (i + 1) v, _, ?_, K39S.putN_ok okd (by omega) (by omega) hv, rfl⟩
        · rw [upd_ne (ne_of_none e zDL)]
          exact bG _ _ nb (hb _ _ nb e)
        · rw [upd_ne nNL]; exact bG _ _ nNu hN
        · rw [upd_same, ← K39S.putK_ck]
      by_cases c : 0 + (i : Int) + 1 < ((100 + n : Nat) : Int)
      · rw [if_pos c]
        have := fin H' (fun _ _ _ e => e) wl (i + 2) (by omega)
        rw [show (((i + 2 : Nat)) : Int) = 0 + (i : Int) + 2 from by omega] at this
        exact this
      · rw [if_neg c]
        refine ⟨by omega, fun p hp => ⟨u, .ref p, _, rfl, wl.but (same_new hp), (fun zz => wne p _ wl hp (by injection zz)), .tup upd_same, by decide, by decide, fun y G bG wG hy => ?_⟩⟩
        have B := (But.same (same_new (o := .tup [.int 0, .int 1, .int 50, .int 900]) hp)).trans bG
        simp only [List.mem_cons, List.not_mem_nil, or_false] at hy
        rcases hy with rfl | rfl | rfl | rfl
        · exact fin G B wG 0 (by omega)
        · exact fin G B wG 1 (by omega)
        · exact fin G B wG 50 (by omega)
        · exact fin G B wG 900 (by omega)
    rintro σ H7 ⟨hb, wl, hN, ds, k0, hL, okd, rfl⟩
    rw [show ((100 : Int) + (n : Int)).toNat = 100 + n from by omega] at okd
    refine hU _ _ ?_
    clear hU
    refine sq fun U hU => ?_
    walk_at "rd"
    refine De.for_s (g2P H u DN DL z (100 + n) ds k0) ⟨hb, wl, hL, [], none, hN, rfl, fun _ q => (nomatch q), rfl⟩ ?_ ?_
    · rintro i c σ H' hc ⟨hb, wl, hL, ns, x0, hN, en, rn, rfl⟩
      have il := (List.getElem?_eq_some_iff.mp hc).1
      walk_at "rd"
      refine ⟨by omega, fun p hp => ⟨u, .ref p, _, rfl, wl.but (same_new hp), (fun zz => wne p _ wl hp (by injection zz)), .tup upd_same, (by decide : 1 ≤ 6), (by decide : 6 ≤ 1000), fun y G3 b3 w3 hy => ?_⟩⟩
      obtain ⟨m, rfl, hm⟩ : ∃ m : Nat, y = vN m ∧ m ≤ 999 := by
        simp only [List.mem_cons, List.not_mem_nil, or_false] at hy
        rcases hy with rfl | rfl | rfl | rfl | rfl | rfl
        · exact ⟨0, rfl, by omega⟩
        · exact ⟨1, rfl, by omega⟩
        · exact ⟨2, rfl, by omega⟩
        · exact ⟨40, rfl, by omega⟩
        · exact ⟨100 + n, rfl, by omega⟩
        · exact ⟨901, rfl, by omega⟩
      have BG := (But.same (same_new (o := .tup [.int 0, .int 1, .int 2, .int 40, .int ((100 + n : Nat) : Int), .int 901]) hp)).trans b3
      have hNG := BG _ _ nNu hN
      have lns : ns.length = i := by
        have := congrArg List.length en
        rw [List.length_map, List.length_take] at this
        omega
      have newc : ∀ x ∈ ns.map nk, x.1 ≠ (.inr (L1 c) : Key) := fun x hx zz => by
        obtain ⟨n, hn, rfl⟩ := List.mem_map.mp hx
        have zz : (Sum.inr (L1 n.1) : Key) = .inr (L1 c) := zz
        injection zz with zz
        have e := L1_inj zz
        have m1 : n.1 ∈ z.cps.toList.take i := by rw [← en]; exact List.mem_map.mpr ⟨n, hn, rfl⟩
        obtain ⟨j, hj⟩ := List.mem_iff_getElem?.mp m1
        rw [List.getElem?_take] at hj
        split at hj
        · rename_i lj
          have := (List.pairwise_iff_getElem.mp zp) j i (List.getElem?_eq_some_iff.mp hj).1 il lj
          rw [(List.getElem?_eq_some_iff.mp hj).2, (List.getElem?_eq_some_iff.mp hc).2, e] at this
          omega
        · cases hj
      refine ⟨_, .k (k := Sum.inr (L1 c)) hNG (by rw [List.length_map]; omega), fun b o nb e => ?_, wl_put w3 nNu, ?_, ns ++ [(c, m)], _, ?_, ?_, fun n hn => ?_, rfl⟩
      · rw [upd_ne (ne_of_none e zDN)]
        exact BG _ _ nb (hb _ _ nb e)
      · rw [upd_ne (Ne.symm nNL)]; exact BG _ _ nLu hL
      · rw [upd_same, putK_new newc, List.map_append]; rfl
      · rw [List.map_append, en, List.take_succ, hc]; rfl
      · rcases List.mem_append.mp hn with hn | hn
        · exact rn n hn
        · rw [List.mem_singleton.mp hn]; exact hm
    rintro σ H8 ⟨hb, wl, hL, ns, x0, hN, en, rn, rfl⟩
    rw [List.take_length] at en
    refine hU _ _ ?_
    clear hU
    walk_at "rd"
    have lns : ns.length = z.cps.toList.length := by rw [← en, List.length_map]
    refine ⟨by omega, fun a ha => ?_⟩
    refine k a DN DL ns ds _ (fun b o nb e => ?_) (wl.but (same_new ha)) ⟨upd_same, same_new ha _ _ hN, same_new ha _ _ hL, ⟨by omega, by omega, fun m hm => ?_, List.pairwise_map.mp (by rw [en]; exact zp)⟩, Nat.le_trans okd.1 (by omega), okd.2⟩ en (wne a H8 wl ha) nNu nLu
    · exact same_new ha _ _ (hb _ _ nb e)
    · have := zr m.1 (by rw [← en]; exact List.mem_map.mpr ⟨m, hm, rfl⟩)
      exact ⟨this.1, this.2, rn m hm⟩
def spDue (K : PySem.W.Frag) : Sp := fun vs H Q _ => ∃ (m : Nat) (a dn dc b : Addr) (ns ds : List (Nat × Nat)) (d : Dd.Deed), vs = [.ref a, .ref b] ∧ LSt m H a dn dc ns ds ∧ m ≤ 101 ∧ H b = some (.tup (d.row.map V.str)) ∧ DeedL d ∧
  (∀ s, miss ns (letL d.words) = some s → Rt H Q [.str "name", .str s]) ∧ (miss ns (letL d.words) = none → (100 < ds.length → Rt H Q [.str "many", .int (ds.length : Nat)]) ∧
    (ds.length ≤ 100 → (Dd.act d ns ds (ds.map (·.1)) = none → Rt H Q [.str "failed", .ref b, .bl true]) ∧ (∀ p n1 c1, Dd.act d ns ds (ds.map (·.1)) = some (p, n1, c1) → ∀ a' dn' dc' D H', Same H H' → LSt 101 H' a' dn' dc' n1 c1 → H' D = some (.lst [.str "done", .ref a']) → Q (.ref D) H')))
theorem sc_due : FnScope ["_law_mine", "_law_act_here", "_law_lacking_here", "_law_homes", "_law_links"] ["_law_mine", "_law_act_here"] (defScope (top 54)) := ⟨rfl, rfl, rfl, by decide +kernel, rfl, by decide +kernel, by decide +kernel⟩
theorem ok_due {f : Addr} {fd : FuncData} (T : Th mg) (F : FD K "_law_due" (top 54) f fd) {f1 f2 : Addr} {fd1 fd2 : FuncData} (C1 : Cal P w K mg base CX0 1 "_law_lacking" ["_law_homes", "_law_some"] spLack f1 fd1) (C2 : Cal P w K mg base CX0 3 "_law_act" ["_law_homes", "_law_links", "_law_gone", "_law_act_here"] spLAct f2 fd2) : FnOk P w K mg base CX0 4 f fd ["_law_mine", "_law_act_here"] (spDue K) := by
  obtain ⟨g_law_lacking, k_law_lacking, b_law_lacking, F_law_lacking⟩ := C1
  obtain ⟨g_law_act, k_law_act, b_law_act, F_law_act⟩ := C2
  refine F.ok sc_due (fun vs H Q E h => ?_) (fun cdv A outer s H vs Q E hr h => ?_)
  · obtain ⟨_, _, _, _, _, _, _, _, rfl, _⟩ := h
    rfl
  · obtain ⟨m, a, dn, dc, b, ns, ds, d, rfl, ⟨ha0, hdn, hdc, okn, okd⟩, hm, hb, hL, m1, m2⟩ := h
    have nd := sc_due.nd
    have zl : (1000000 : Nat) ≤ sizeLine := line_big
    refine ⟨_, (pss_cons (ps_set (i := 2) nd rfl (Or.inl rfl) (pe_call F_law_lacking (hr.mono (by omega)) rfl g_law_lacking k_law_lacking b_law_lacking .nil pass0 (pa_cons (pe_ix (r := rIxL K) ix_list (pv 0) pe_int (fun _ _ => rfl)) (pa_cons (pe_slice (r := rSlT K) sl_tup (pv 1) (po_some pe_int) po_none) pa_nil))))
        (pss_cons (ps_if (pt_cmpR (Le.op_neLEK (K := K) rfl hr.units) (pv 2) (pe_lst pa_nil) (nomark _)) (pss_one (ps_ret (pe_lst (pa_cons pe_str (pa_cons (pe_ix (r := rIxL K) ix_list (pv 2) pe_int (fun _ _ => rfl)) pa_nil))))) pss_nil)
        (pss_cons (ps_if (pt_cmpR op_gt (pe_callB call_lenD (by rfl) T.b_len PySem.boot_len (pa_cons (pe_ix (r := rIxL K) ix_list (pv 0) pe_int (fun _ _ => rfl)) pa_nil)) pe_int (nomark _)) (pss_one (ps_ret (pe_lst (pa_cons pe_str (pa_cons (pe_callB call_lenD (by rfl) T.b_len PySem.boot_len (pa_cons (pe_ix (r := rIxL K) ix_list (pv 0) pe_int (fun _ _ => rfl)) pa_nil)) pa_nil))))) pss_nil)
        (pss_cons (ps_par rfl nd (i := 3) (j := 4) rfl rfl (by decide) rfl rfl (pa_cons (pe_callTy call_dictD (by rfl) T.b_dict (by decide +kernel) (pa_cons (pe_ix (r := rIxL K) ix_list (pv 0) pe_int (fun _ _ => rfl)) pa_nil)) (pa_cons (pe_callTy call_dictD (by rfl) T.b_dict (by decide +kernel) (pa_cons (pe_ix (r := rIxL K) ix_list (pv 0) pe_int (fun _ _ => rfl)) pa_nil)) pa_nil)) rfl)
        (pss_cons (ps_if (pt_not (pt_val (pe_ix (r := rIxL K) ix_list (pe_call F_law_act (hr.mono (by omega)) rfl g_law_act k_law_act b_law_act .nil pass0 (pa_cons (pv 3) (pa_cons (pv 4) (pa_cons pe_dnewK (pa_cons (pv 1) pa_nil))))) pe_int (fun _ _ => rfl)))) (pss_one (ps_ret (pe_lst (pa_cons pe_str (pa_cons (pv 1) (pa_cons pe_bl pa_nil)))))) pss_nil)
        (pss_one (ps_ret (pe_lst (pa_cons pe_str (pa_cons (pe_lst (pa_cons (pv 3) (pa_cons (pv 4) pa_nil))) pa_nil)))))))))), ?_⟩
    refine sq fun U hU => ?_
    walk_at "rd"
    have hr0 : 2 ≤ d.row.length ∧ d.row.length ≤ 3 := by cases d <;> simp [Dd.Deed.row]
    have cw : cutV (d.row.map V.str) (some 1) none = d.words.map V.str := by cases d <;> rfl
    refine ⟨_, SqL.of ha0, _, rfl, b, _, rfl, SqT.of hb, (fun q => by have := q.1; rw [show HT.sIx (d.row.map V.str).length 0 (some 1) = 1 from by cases d <;> rfl] at this; omega), fun l hl => ?_⟩
    rw [cw]
    have s1 : Same H (upd H l (.tup (d.words.map V.str))) := same_new hl
    have lw : d.words.length ≤ 20 := by unfold Dd.Deed.words; rw [List.length_drop]; omega
    refine ⟨dn, l, ns, d.words, rfl, s1 _ _ hdn, upd_same, hL.goal, lw, fun D ls H2 s2 hD hh l20 => hU _ _ ?_⟩
    clear hU
    have s02 := s1.trans s2
    clear s1 s2
    refine sq fun U hU => ?_
    walk_at "rd"
    refine ⟨Nat.zero_le _, fun p hp => ⟨_, SqL.of (same_new hp _ _ hD), SqL.of upd_same, ?_⟩⟩
    have s3 := s02.trans (same_new (o := .lst []) hp)
    have hD3 : upd H2 p (.lst []) D = some (.lst (ls.map V.str)) := same_new hp _ _ hD
    generalize upd H2 p (.lst []) = H3 at s3 hD3 ⊢
    cases ls with
    | cons s r =>
      rw [if_pos (fun z => by cases z)]
      have hm : miss ns (letL d.words) = some s := hh.symm
      exact ⟨_, SqL.of hD3, _, atI_nn (by decide) rfl, by omega, fun D2 hD2 => m1 s hm D2 _ (s3.trans (same_new hD2)) upd_same⟩
    | nil =>
      rw [if_neg (fun z => z rfl)]
      have hm : miss ns (letL d.words) = none := hh.symm
      obtain ⟨m3, m4⟩ := m2 hm
      have kd := hL.known hm
      refine hU _ _ ?_
      clear hU m1 m2
      refine sq fun U hU => ?_
      walk_at "rd"
      have hml : ((ds.map ck).length : Int) = (ds.length : Nat) := by rw [List.length_map]
      refine ⟨_, SqL.of (s3 _ _ ha0), _, rfl, dc, rfl, _, s3 _ _ hdc, ?_⟩
      rw [hml]
      by_cases hgt : (100 : Int) < (ds.length : Nat)
      · rw [if_pos hgt]
        refine ⟨_, SqL.of (s3 _ _ ha0), _, rfl, dc, rfl, _, s3 _ _ hdc, by omega, fun D2 hD2 => ?_⟩
        rw [hml]
        exact m3 (by omega) D2 _ (s3.trans (same_new hD2)) upd_same
      rw [if_neg hgt]
      have hle : ds.length ≤ 100 := by omega
      obtain ⟨m5, m6⟩ := m4 hle
      refine hU _ _ ?_
      clear hU m3 m4 hml
      refine sq fun U hU => ?_
      walk_at "rd"
      refine ⟨_, SqL.of (s3 _ _ ha0), _, rfl, dn, rfl, _, .inl (s3 _ _ hdn), fun DN hDN => ⟨_, SqL.of (same_new hDN _ _ (s3 _ _ ha0)), _, rfl, dc, rfl, _, .inl (same_new hDN _ _ (s3 _ _ hdc)), fun DC hDC => hU _ _ ?_⟩⟩
      clear hU
      have t1 := same_new (o := .dK (ns.map nk)) hDN
      have t2 := same_new (o := .dK (ds.map ck)) hDC
      have nNC : DN ≠ DC := ne_of_none (o := .dK (ns.map nk)) upd_same hDC
      have hN5 := t2 _ _ (upd_same (H := H3) (a := DN) (o := .dK (ns.map nk)))
      have hC5 : upd (upd H3 DN (.dK (ns.map nk))) DC (.dK (ds.map ck)) DC = some (.dK (ds.map ck)) := upd_same
      have s5 := s3.trans (t1.trans t2)
      have zN : H DN = none := by
        cases e : H DN with
        | none => rfl
        | some o => rw [s3 _ _ e] at hDN; cases hDN
      have zC : H DC = none := by
        cases e : H DC with
        | none => rfl
        | some o => rw [t1 _ _ (s3 _ _ e)] at hDC; cases hDC
      generalize upd (upd H3 DN (.dK (ns.map nk))) DC (.dK (ds.map ck)) = H5 at s5 hN5 hC5 ⊢
      clear t1 t2 hDN hDC hD3 s3
      refine sq fun U hU => ?_
      walk_at "rd"
      intro g hg
      have s6 := s5.trans (same_new (o := .dK []) hg)
      have nGN : DN ≠ g := ne_of_none hN5 hg
      have nGC : DC ≠ g := ne_of_none hC5 hg
      have zG : H g = none := by
        cases e : H g with
        | none => rfl
        | some o => rw [s5 _ _ e] at hg; cases hg
      have cb : Dd.CB 100 ds := ⟨hle, fun c hc => (okd.2.1 c hc), okd.2.2⟩
      refine ⟨DN, DC, g, b, ns, ds, [], d, rfl, s6 _ _ hb, same_new hg _ _ hN5, same_new hg _ _ hC5, upd_same, by simp only [List.nodup_cons, List.mem_cons, List.not_mem_nil, or_false, not_or, List.nodup_nil, and_true, not_false_eq_true]; exact ⟨⟨nNC, nGN⟩, nGC⟩, kd, by have := okn.2.1; simp only [List.length_nil]; omega, ?_, ?_⟩
      · rw [List.append_nil]
        intro ea l H7 s7 hl7
        refine ⟨l, rfl, _, SqL.of hl7, .bl false, rfl, false, rfl, ?_⟩
        rw [if_pos rfl]
        refine ⟨by decide, fun D2 hD2 => m5 ea D2 _ (s6.trans (s7.trans (same_new hD2))) upd_same⟩
      · rw [List.append_nil]
        intro p n1 c1 ea l H7 e1 e2 e3 hl7 _ fr
        refine ⟨l, rfl, _, SqL.of hl7, .bl true, rfl, true, rfl, ?_⟩
        rw [if_neg (fun z => nomatch z)]
        have s7 : Same H H7 := fun c o e => fr c o (fun z => by rw [z, zN] at e; cases e) (fun z => by rw [z, zC] at e; cases e) (fun z => by rw [z, zG] at e; cases e) (s6 _ _ e)
        refine hU _ _ ?_
        clear hU
        have ok := Dd.act_ok (m := 100) okn cb kd.known (by have := okn.2.1; rw [List.length_map]; omega) ea
        walk_at "rd"
        refine ⟨by omega, fun x hx => ⟨by omega, fun D2 hD2 => ?_⟩⟩
        have sx := same_new (o := .lst [.ref DN, .ref DC]) hx
        have sy := same_new (o := .lst [.str (Str.ofString "done"), .ref x]) hD2
        exact m6 p n1 c1 ea x DN DC D2 _ (s7.trans (sx.trans sy)) ⟨sy _ _ upd_same, sy _ _ (sx _ _ e1), sy _ _ (sx _ _ e2), ok.1, ok.2.1⟩ upd_same
end
end K39

set_option Elab.async false
set_option linter.all false
set_option maxRecDepth 100000
set_option maxHeartbeats 2000000
/-! a text so many times -/
namespace Mu
open PySem PySem.Spec PyProof.Rows L2 Rd
def rMulS : R2 := fun x y H Q => ∃ (s : Str) (n : Int), x = .str s ∧ y = .int n ∧ 0 ≤ n ∧ n ≤ 1000 ∧ s.length ≤ 10000 ∧ Q (.str (Txt.mul s n)) H
theorem rMulS_ {x y : V} {H : Hp} {Q : VK} : rMulS x y H Q = ∃ (s : Str) (n : Int), x = .str s ∧ y = .int n ∧ 0 ≤ n ∧ n ≤ 1000 ∧ s.length ≤ 10000 ∧ Q (.str (Txt.mul s n)) H := rfl
theorem op_mulS {X : Cx} : OpR X (binaryOp .Mult) rMulS := by
  intro pins s σ H x y v u Q I rx ry h
  obtain ⟨z, n, rfl, rfl, h0, h1, hz, q⟩ := h
  obtain ⟨t, rfl⟩ := rx
  obtain ⟨t2, rfl⟩ := ry
  have hb : z.length * n.toNat ≤ 10000000 := by
    have := Nat.mul_le_mul hz (show n.toNat ≤ 1000 by omega)
    omega
  refine SB.mul ⟨?_, fun hn _ => ?_, fun hn _ => ?_⟩ fun t' k => ⟨.str (Txt.mul z n), H, I.tok k, ⟨t', rfl⟩, q⟩
  · rw [decide_eq_false (by omega), decide_eq_false (by omega)]; rfl
  · intro hh
    have h2 : (1 : Int) ≤ n := by omega
    have h3 : (10000 : Int) ≤ (2 ^ 63 - 1) / n := by
      rw [Int.le_ediv_iff_mul_le (by omega)]
      omega
    omega
  · show decide (z.length * n.toNat > sizeLine) = false
    exact decide_eq_false (by rw [sizeLine_eq] ; omega)
theorem foldl_to (a : Array Nat) : ∀ (m : Nat) (acc : Array Nat), ((List.replicate m a).foldl (· ++ ·) acc).toList = acc.toList ++ (List.replicate m a.toList).flatten
  | 0, acc => by simp
  | m + 1, acc => by
    rw [List.replicate_succ, List.foldl_cons, foldl_to a m, List.replicate_succ, List.flatten_cons, Array.toList_append, List.append_assoc]
theorem mul_len {s : Str} {n : Int} {m k : Nat} (h : s.length ≤ m) (hn : n.toNat ≤ k) : (Txt.mul s n).length ≤ k * m := by
  unfold Txt.mul
  split
  · show 0 ≤ _
    exact Nat.zero_le _
  · split
    · rename_i h1 _
      have : 1 ≤ k := by omega
      exact Nat.le_trans h (Nat.le_mul_of_pos_left m this)
    · have e := foldl_to s.cps n.toNat #[]
      have l : (((List.replicate n.toNat s.cps).foldl (· ++ ·) #[]).toList).length = n.toNat * s.length := by
        rw [e, List.length_append, List.length_flatten, List.map_replicate, List.sum_replicate_nat]
        show 0 + n.toNat * s.cps.toList.length = _
        rw [Nat.zero_add]; rfl
      show ((List.replicate n.toNat s.cps).foldl (· ++ ·) #[]).size ≤ _
      rw [← Array.length_toList, l]
      exact Nat.mul_le_mul hn h
theorem mul_mem {s : Str} {n : Int} {c : Nat} (h : c ∈ (Txt.mul s n).cps.toList) : c ∈ s.cps.toList := by
  unfold Txt.mul at h
  split at h
  · cases (show c ∈ ([] : List Nat) from h)
  · split at h
    · exact h
    · have e := foldl_to s.cps n.toNat #[]
      have h' : c ∈ ((List.replicate n.toNat s.cps).foldl (· ++ ·) #[]).toList := h
      rw [e] at h'
      rcases List.mem_append.mp h' with z | z
      · cases z
      · obtain ⟨l, h1, h2⟩ := List.mem_flatten.mp z
        rw [(List.mem_replicate.mp h1).2] at h2
        exact h2
end Mu

set_option Elab.async false
set_option linter.all false
set_option maxRecDepth 100000
set_option maxHeartbeats 4000000
namespace K39
open PySem PySem.Spec PyProof.Rows L2 Rd Dt Dq Pk Ln En Sx Sy So Sr Lk TL
open K39S (StA StB StM LSt HpA HpB spMade spTxt map_at kit_self sorted_names keys_n keys_c get_n get_d DcOk asc_nodup nuP nuP_step vN)
local macro_rules | `(tactic| walk_at "rd") => `(tactic| try simp only [↓De.tFor_str, ↓Lk.tLockE_, ↓Lk.tLock_, ↓Lk.tLc_keys, ↓Lk.tFor_keys, ↓Sy.tTupP_, ↓Sy.rTupP_, ↓Sy.rCatP_, ↓Sy.rSlP_, ↓Sy.rDictT_, ↓Sy.tDGet_, ↓Sy.tDGet1_, ↓Sy.tDIn_, ↓Sy.tDNotIn_, ↓Sy.tMeth_, ↓Sy.tMethKw_, ↓Sy.rSortedS_, ↓Sx.rIsT_, ↓En.tFor_enumT, ↓Sy.tFor_enumL, ↓Rv.tMakeKw_, ↓Prp.tProp_, ↓Lo.tBits_, ↓Lo.tJs_n, ↓Lo.tJs_c, ↓Lo.tFmt_, ↓Lo.gFld_, ↓Lo.tMake_, ↓Lo.rOwn_, ↓Rg.tFor_range3, ↓Rg.tLc_range3, ↓Rg.tLstC_, ↓Rg.tLc_rngV, ↓Le.rNeLE_, ↓Le.rEqLE_, ↓Ls.tLc_str, ↓Ls.sDPut_, ↓Rl.rReprL_, ↓Rl.tCallKS_, ↓Ob.tFld_, ↓Ob.sFld_, ↓tVar_, ↓tC_, ↓tM1, ↓tDNewK_, ↓tOp_, ↓tUn_, ↓rI_, ↓rI0_, ↓rU_, ↓eq_ii, ↓ne_ii, ↓eq_ss, ↓ne_ss, ↓eq_bb, ↓ne_bb, ↓tAndV_, ↓tOrV_, ↓tNotV_, ↓tIf_, ↓tTest_, ↓tB_, ↓tAnd_, ↓tOr_, ↓tNot_, ↓tChain_, ↓tNil_, ↓tCons_, ↓tTup_, ↓tLst_, ↓tCB_, ↓tCall_, ↓tSeq_, ↓tNext_, ↓tRet_, ↓tRetN_, ↓tDrop_, ↓tBreak_, ↓tNever_, ↓tIfS_, ↓tAsg_, ↓gName_, ↓gTup_, ↓gCons_, ↓gNil_, ↓gSub_, ↓tPar_, ↓tPar3_, ↓tSl_, ↓tNoPart_, ↓tPart_, ↓tBM_, ↓tFor_range1, ↓tFor_range2, ↓tFor_list, ↓tFor_tup, L2.start, List.headD_cons, List.headD_nil, List.tail_cons, List.map_cons, List.map_nil, List.length_cons, List.length_nil, List.replicate, List.append_nil, List.nil_append, List.cons_append, List.getElem?_cons_zero, List.getElem?_cons_succ, List.set_cons_zero, List.set_cons_succ, Option.some.injEq, V.int.injEq, V.bl.injEq, V.str.injEq, V.ref.injEq, exists_eq_left, exists_eq_left', exists_eq_right, exists_eq, exists_and_left, and_true, true_and, decide_eq_true_eq, Nat.reduceAdd, Nat.reduceSub, Nat.add_zero, Nat.zero_add, List.cons.injEq, Bool.not_eq_true', decide_eq_false_iff_not, eq_self, reduceCtorEq, Bool.false_eq_true, if_true, if_false, ite_true, ite_false, and_self, ↓tLc_range1, ↓tLc_range2, ↓tLc_list, ↓tLc_tup, ↓tYes_, wipe0, wipe1, ↓tCallS_, ↓rIxL_, ↓rIxT_, ↓rSlL_, ↓rCat_, ↓rSetL_, ↓rRep_, ↓rGcd_, ↓tCallK_, ↓gUnl_, ↓tRaise_, decide_true, decide_false, not_true_eq_false, not_false_eq_true, false_and, or_false, false_or, and_false, and_assoc, exists_const, forall_const, forall_eq'])
section
variable {P : Program} {w : World} {K : PySem.W.Frag} {mg : Str → Option Value} {base : Heap}
/-! ### odd things -/
theorem dq_but {u : Addr} {H H' : Hp} (hb : But u H H') (w : WellAt H u) {x : V} {d : PyData} (h : Dq K H x d) : Dq K H' x d := by
  refine h.keep fun a o e xs ho => hb a o (fun z => ?_) e
  obtain ⟨a1, b1, c1, q⟩ := w
  rw [z, q] at e
  cases e
  rcases ho with ⟨h1, h2⟩ | h1 | h1
  · cases h1
    exact absurd (show 3 ≤ 2 from h2) (by decide)
  · cases h1
  · cases h1
theorem sm_letter {a : Str} (h : isLetterS a = true) : smS a = true := by
  obtain ⟨s, e, t⟩ := letter_tok (d := .str a) h
  cases e
  unfold smS
  rw [decide_eq_true (show a.length ≤ 10000 from Nat.le_trans t.len (by decide)), t.ok]; rfl
theorem dq_mem {H : Hp} {xs : List V} {ds : List PyData} (hD : DqAll K H xs ds) {y : V} (hy : y ∈ xs) : ∃ d, d ∈ ds ∧ Dq K H y d := by
  obtain ⟨i, hi⟩ := List.mem_iff_getElem?.mp hy
  obtain ⟨d, h1, h2⟩ := hD.atV hi
  exact ⟨d, List.mem_of_getElem? h1, h2⟩
def bdB (t : PyData → Bool) (n m : Nat) (ds : List PyData) : Bool := ds.all fun d => decide (d.depth ≤ n) && (decide (wt d ≤ m) && t d)
/-- one of a menu of data -/
theorem pickD {t : PyData → Bool} {H : Hp} {u p : Addr} {xs : List V} {ds : List PyData} {n m : Nat} {Q : VK} {E : XK} (hw : WellAt H u) (e : H p = some (.tup xs)) (hD : DqAll K H xs ds) (hb : bdB t n m ds = true) (l1 : 1 ≤ xs.length) (l2 : xs.length ≤ 1000)
    (k : ∀ (y : V) (d : PyData) (H' : Hp), But u H H' → WellAt H' u → Dq K H' y d → d.depth ≤ n → wt d ≤ m → t d = true → Q y H') : spPick [.ref u, .ref p] H Q E := by
  have pu : p ≠ u := fun z => by
    obtain ⟨a, b, c, q⟩ := hw
    rw [z, q] at e
    cases e
  refine ⟨u, .ref p, xs, rfl, hw, (fun q => pu (by cases q; rfl)), .tup e, l1, l2, fun y H' b w' hy => ?_⟩
  obtain ⟨d, hd, h⟩ := dq_mem hD hy
  have := List.all_eq_true.mp hb d hd
  obtain ⟨h1, h2⟩ := Bool.and_eq_true_iff.mp this
  obtain ⟨h2, h3⟩ := Bool.and_eq_true_iff.mp h2
  exact k y d H' b w' (dq_but b hw h) (of_decide_eq_true h1) (of_decide_eq_true h2) h3
def spOdd (K : PySem.W.Frag) : Sp := fun vs H Q _ => ∃ (u : Addr), vs = [.ref u] ∧ WellAt H u ∧ ∀ (x : V) (d : PyData) (H' : Hp), But u H H' → WellAt H' u → Dq K H' x d → d.depth ≤ 3 → wt d ≤ 700 → Q x H'
theorem sc_odd : FnScope ["_law_well_here"] ["_law_well_here"] (defScope (top 50)) := ⟨rfl, rfl, rfl, by decide +kernel, rfl, by decide +kernel, by decide +kernel⟩
theorem ok_odd {f : Addr} {fd : FuncData} (T : Tx mg) (F : FD K "_law_odd" (top 50) f fd) {f2 : Addr} {fd2 : FuncData} (C2 : Cal P w K mg base CX0 2 "_law_pick" ["_law_well_here", "_law_some"] spPick f2 fd2) : FnOk P w K mg base CX0 3 f fd ["_law_well_here"] (spOdd K) := by
  obtain ⟨g_law_pick, k_law_pick, b_law_pick, F_law_pick⟩ := C2
  refine F.ok sc_odd (fun vs H Q E h => ?_) (fun cdv A outer s H vs Q E hr h => ?_)
  · obtain ⟨_, rfl, _⟩ := h
    rfl
  · obtain ⟨u, rfl, hw, k⟩ := h
    have nd := sc_odd.nd
    refine ⟨_, (pss_one (ps_ret (pe_call F_law_pick (hr.mono (by omega)) rfl g_law_pick k_law_pick b_law_pick .nil pass0 (pa_cons (pv 0) (pa_cons (pe_tup (pa_cons pe_non (pa_cons pe_bl (pa_cons pe_bl (pa_cons pe_int (pa_cons pe_int (pa_cons pe_str (pa_cons pe_str (pa_cons pe_str (pa_cons (pe_tup pa_nil) (pa_cons (pe_tup (pa_cons pe_str pa_nil)) (pa_cons (pe_tup (pa_cons pe_str (pa_cons pe_str (pa_cons pe_non pa_nil)))) (pa_cons (pe_lst pa_nil) (pa_cons (pe_lst (pa_cons pe_str pa_nil)) (pa_cons pe_dnewK (pa_cons (pe_tup (pa_cons (pe_tup pa_nil) pa_nil)) (pa_cons (pe_un un_neg pe_int) pa_nil))))))))))))))))) pa_nil))))), ?_⟩
    walk_at "rd"
    refine ⟨by decide, fun q1 hq1 => ?_⟩
    have sq1 := fun o : HO => same_new (o := o) hq1
    refine ⟨by decide, fun q2 hq2 => ?_⟩
    have sq2 := fun o : HO => same_new (o := o) hq2
    refine ⟨by decide, fun q3 hq3 => ?_⟩
    have sq3 := fun o : HO => same_new (o := o) hq3
    refine ⟨by decide, fun q4 hq4 => ?_⟩
    have sq4 := fun o : HO => same_new (o := o) hq4
    refine ⟨by decide, fun q5 hq5 => ?_⟩
    have sq5 := fun o : HO => same_new (o := o) hq5
    refine fun q6 hq6 => ?_
    have sq6 := fun o : HO => same_new (o := o) hq6
    refine ⟨by decide, fun q7 hq7 => ?_⟩
    have sq7 := fun o : HO => same_new (o := o) hq7
    refine ⟨by decide, fun q8 hq8 => ?_⟩
    have sq8 := fun o : HO => same_new (o := o) hq8
    refine ⟨by decide, fun q9 hq9 => ?_⟩
    have sq9 := fun o : HO => same_new (o := o) hq9
    exact pickD (K := K) (t := fun _ => true) (n := 3) (m := 700) (ds := [.none, .bool true, .bool false, .int (0), .int (3), .str "", .str "X", .str "xy", .tuple [], .tuple [.str "copy"], .tuple [.str "copy", .str "x", .none], .list [], .list [.str "x = y"], .dict [], .tuple [.tuple []], .int (-1)]) (hw.but (Same.trans (Same.trans (Same.trans (Same.trans (Same.trans (Same.trans (Same.trans (Same.trans (sq1 _) (sq2 _)) (sq3 _)) (sq4 _)) (sq5 _)) (sq6 _)) (sq7 _)) (sq8 _)) (sq9 _))) upd_same
      (.cons .non (.cons (.bl _) (.cons (.bl _) (.cons (.int _ (by decide)) (.cons (.int _ (by decide)) (.cons (.str _ (by decide +kernel)) (.cons (.str _ (by decide +kernel)) (.cons (.str _ (by decide +kernel)) (.cons (.tup (sq9 _ _ _ (sq8 _ _ _ (sq7 _ _ _ (sq6 _ _ _ (sq5 _ _ _ (sq4 _ _ _ (sq3 _ _ _ (sq2 _ _ _ upd_same)))))))) .nil) (.cons (.tup (sq9 _ _ _ (sq8 _ _ _ (sq7 _ _ _ (sq6 _ _ _ (sq5 _ _ _ (sq4 _ _ _ (sq3 _ _ _ upd_same))))))) (.cons (.str _ (by decide +kernel)) .nil)) (.cons (.tup (sq9 _ _ _ (sq8 _ _ _ (sq7 _ _ _ (sq6 _ _ _ (sq5 _ _ _ (sq4 _ _ _ upd_same)))))) (.cons (.str _ (by decide +kernel)) (.cons (.str _ (by decide +kernel)) (.cons .non .nil)))) (.cons (.lst (sq9 _ _ _ (sq8 _ _ _ (sq7 _ _ _ (sq6 _ _ _ (sq5 _ _ _ upd_same))))) (by decide) .nil) (.cons (.lst (sq9 _ _ _ (sq8 _ _ _ (sq7 _ _ _ (sq6 _ _ _ upd_same)))) (by decide) (.cons (.str _ (by decide +kernel)) .nil)) (.cons (.dic (sq9 _ _ _ (sq8 _ _ _ (sq7 _ _ _ upd_same)))) (.cons (.tup (sq9 _ _ _ upd_same) (.cons (.tup (sq9 _ _ _ (sq8 _ _ _ upd_same)) .nil) .nil)) (.cons (.int _ (by decide)) .nil)))))))))))))))) (by decide +kernel) (show 1 ≤ 16 by decide) (show 16 ≤ 1000 by decide) fun y d H' b w' hy h1 h2 _ => k y d H' (But.trans (But.same (Same.trans (Same.trans (Same.trans (Same.trans (Same.trans (Same.trans (Same.trans (Same.trans (sq1 _) (sq2 _)) (sq3 _)) (sq4 _)) (sq5 _)) (sq6 _)) (sq7 _)) (sq8 _)) (sq9 _))) b) w' hy h1 h2
/-! ### right -/
def spG : Sp := fun vs H Q _ => ∃ (u : Addr), vs = [.ref u] ∧ WellAt H u ∧ ∀ H', But u H H' → WellAt H' u → Q (.bl true) H'
theorem LSt.but {m : Nat} {H H' : Hp} {a dn dc u : Addr} {ns ds : List (Nat × Nat)} (h : LSt m H a dn dc ns ds) (b : But u H H') (n1 : a ≠ u) (n2 : dn ≠ u) (n3 : dc ≠ u) : LSt m H' a dn dc ns ds := ⟨b _ _ n1 h.1, b _ _ n2 h.2.1, b _ _ n3 h.2.2.1, h.2.2.2⟩
theorem LSt.up {m : Nat} {H H' : Hp} {a dn dc : Addr} {ns ds : List (Nat × Nat)} (h : LSt m H a dn dc ns ds) (b : Same H H') : LSt m H' a dn dc ns ds := ⟨b _ _ h.1, b _ _ h.2.1, b _ _ h.2.2.1, h.2.2.2⟩
theorem LSt.le {m n : Nat} {H : Hp} {a dn dc : Addr} {ns ds : List (Nat × Nat)} (h : LSt m H a dn dc ns ds) (l : m ≤ n) : LSt n H a dn dc ns ds := ⟨h.1, h.2.1, h.2.2.1, h.2.2.2.1, Nat.le_trans h.2.2.2.2.1 l, h.2.2.2.2.2⟩
theorem lst_no2 {l : List V} (xs : List V) : HO.lst l ≠ .tup xs ∧ ∀ ob, HO.lst l ≠ .frz ob (.tup xs) := ⟨fun z => (by cases z), fun _ z => (by cases z)⟩
theorem StA.but2 {C : Addr} {H H' : Hp} {u : Addr} (s : But u H H') (w : WellAt H u) {r : Addr} {ns cs : List (Nat × Nat)} (h : StA K C H r ns cs) : StA K C H' r ns cs := by
  obtain ⟨dx, an, ac, dp, da, h1, h2, h3, h4, h5, h6, h7⟩ := h
  obtain ⟨q1, q2, q3, e⟩ := w
  exact ⟨dx, an, ac, dp, da, s _ _ (ne_of h1 e (fun z => by cases z)) h1, h2.but s e lst_no2, h3.but s e lst_no2, s _ _ (ne_of h4 e (fun z => by cases z)) h4, s _ _ (ne_of h5 e (fun z => by cases z)) h5, h6, h7⟩
theorem two_ok {H : Hp} {x : V} {d : PyData} {s : Str} (hs : smS s = true) (ls : s.length ≤ 6) (hx : Dq K H x d) (hd : d.depth ≤ 48) (hw : wt d ≤ 900000) : DqAll K H [.str s, x] [.str s, d] ∧ PyData.depthAll [.str s, d] ≤ 49 ∧ wtAll [.str s, d] ≤ 1000000 := by
  refine ⟨.cons (.str _ hs) (.cons hx .nil), ?_, ?_⟩
  · simp only [PyData.depthAll, PyData.depth]
    omega
  · simp only [wtAll, wt]
    omega
theorem three_ok {H : Hp} {x : V} {d : PyData} {s : Str} {b : Bool} (hs : smS s = true) (ls : s.length ≤ 6) (hx : Dq K H x d) (hd : d.depth ≤ 48) (hw : wt d ≤ 900000) : DqAll K H [.str s, x, .bl b] [.str s, d, .bool b] ∧ PyData.depthAll [.str s, d, .bool b] ≤ 49 ∧ wtAll [.str s, d, .bool b] ≤ 1000000 := by
  refine ⟨.cons (.str _ hs) (.cons hx (.cons (.bl _) .nil)), ?_, ?_⟩
  · simp only [PyData.depthAll, PyData.depth]
    omega
  · simp only [wtAll, wt]
    omega
end
end K39

set_option Elab.async false
set_option linter.all false
set_option maxRecDepth 100000
set_option maxHeartbeats 4000000
namespace K39
open PySem PySem.Spec PyProof.Rows L2 Rd Dt Dq Pk Ln En Sx Sy So Sr Lk TL
open K39S (StA StB StM LSt HpA HpB spMade spTxt map_at kit_self sorted_names keys_n keys_c get_n get_d DcOk asc_nodup nuP nuP_step vN)
local macro_rules | `(tactic| walk_at "rd") => `(tactic| try simp only [↓De.tFor_str, ↓Lk.tLockE_, ↓Lk.tLock_, ↓Lk.tLc_keys, ↓Lk.tFor_keys, ↓Sy.tTupP_, ↓Sy.rTupP_, ↓Sy.rCatP_, ↓Sy.rSlP_, ↓Sy.rDictT_, ↓Sy.tDGet_, ↓Sy.tDGet1_, ↓Sy.tDIn_, ↓Sy.tDNotIn_, ↓Sy.tMeth_, ↓Sy.tMethKw_, ↓Sy.rSortedS_, ↓Sx.rIsT_, ↓En.tFor_enumT, ↓Sy.tFor_enumL, ↓Rv.tMakeKw_, ↓Prp.tProp_, ↓Lo.tBits_, ↓Lo.tJs_n, ↓Lo.tJs_c, ↓Lo.tFmt_, ↓Lo.gFld_, ↓Lo.tMake_, ↓Lo.rOwn_, ↓Rg.tFor_range3, ↓Rg.tLc_range3, ↓Rg.tLstC_, ↓Rg.tLc_rngV, ↓Le.rNeLE_, ↓Le.rEqLE_, ↓Ls.tLc_str, ↓Ls.sDPut_, ↓Rl.rReprL_, ↓Rl.tCallKS_, ↓Ob.tFld_, ↓Ob.sFld_, ↓tVar_, ↓tC_, ↓tM1, ↓tDNewK_, ↓tOp_, ↓tUn_, ↓rI_, ↓rI0_, ↓rU_, ↓eq_ii, ↓ne_ii, ↓eq_ss, ↓ne_ss, ↓eq_bb, ↓ne_bb, ↓tAndV_, ↓tOrV_, ↓tNotV_, ↓tIf_, ↓tTest_, ↓tB_, ↓tAnd_, ↓tOr_, ↓tNot_, ↓tChain_, ↓tNil_, ↓tCons_, ↓tTup_, ↓tLst_, ↓tCB_, ↓tCall_, ↓tSeq_, ↓tNext_, ↓tRet_, ↓tRetN_, ↓tDrop_, ↓tBreak_, ↓tNever_, ↓tIfS_, ↓tAsg_, ↓gName_, ↓gTup_, ↓gCons_, ↓gNil_, ↓gSub_, ↓tPar_, ↓tPar3_, ↓tSl_, ↓tNoPart_, ↓tPart_, ↓tBM_, ↓tFor_range1, ↓tFor_range2, ↓tFor_list, ↓tFor_tup, L2.start, List.headD_cons, List.headD_nil, List.tail_cons, List.map_cons, List.map_nil, List.length_cons, List.length_nil, List.replicate, List.append_nil, List.nil_append, List.cons_append, List.getElem?_cons_zero, List.getElem?_cons_succ, List.set_cons_zero, List.set_cons_succ, Option.some.injEq, V.int.injEq, V.bl.injEq, V.str.injEq, V.ref.injEq, exists_eq_left, exists_eq_left', exists_eq_right, exists_eq, exists_and_left, and_true, true_and, decide_eq_true_eq, Nat.reduceAdd, Nat.reduceSub, Nat.add_zero, Nat.zero_add, List.cons.injEq, Bool.not_eq_true', decide_eq_false_iff_not, eq_self, reduceCtorEq, Bool.false_eq_true, if_true, if_false, ite_true, ite_false, and_self, ↓tLc_range1, ↓tLc_range2, ↓tLc_list, ↓tLc_tup, ↓tYes_, wipe0, wipe1, ↓tCallS_, ↓rIxL_, ↓rIxT_, ↓rSlL_, ↓rCat_, ↓rSetL_, ↓rRep_, ↓rGcd_, ↓tCallK_, ↓gUnl_, ↓tRaise_, decide_true, decide_false, not_true_eq_false, not_false_eq_true, false_and, or_false, false_or, and_false, and_assoc, exists_const, forall_const, forall_eq'])
section
variable {P : Program} {w : World} {K : PySem.W.Frag} {mg : Str → Option Value} {base : Heap}
theorem iq {tt : TT} {t u : TS} {D : Ends} {σ : L2.St} {H : Hp} (h : ∀ T U : Hp → Prop, (∀ H', t D σ H' → T H') → (∀ H', u D σ H' → U H') → tt σ H (fun b H1 => if b = true then T H1 else U H1)) : tIfS tt t u D σ H := h (t D σ) (u D σ) (fun _ x => x) (fun _ x => x)
theorem inz_let {z s : Str} (hz : SgZ z) (h : InZ z s) : isLetterS s = true := by
  obtain ⟨c, hc, rfl⟩ := h
  exact mem_abcL.mp (List.mem_map.mpr ⟨c, hz.2.2 c hc, rfl⟩)
theorem deed_in {z : Str} (hz : SgZ z) {d : Dd.Deed} (h : DeedIn z d) : DeedL d := by
  have g : ∀ s, InZ z s → isGoal (.str s) = true := fun s hs => let_goal (inz_let hz hs)
  have e : ∀ s : Str, (s = "END" ∨ InZ z s) → isGoal (.str s) = true := fun s hs => hs.elim (fun q => by rw [q]; rfl) (g s)
  cases d with
  | copy a b => exact ⟨inz_let hz h.1, e _ h.2⟩
  | tie a b => exact ⟨inz_let hz h.1, e _ h.2⟩
  | next a b => exact ⟨inz_let hz h.1, inz_let hz h.2⟩
  | new a => exact inz_let hz h
  | drop a => exact inz_let hz h
theorem goal_sm {s : Str} (h : isGoal (.str s) = true) : smS s = true ∧ s.length ≤ 3 := by
  rcases goal_cases h with rfl | h
  · exact ⟨by decide +kernel, by decide⟩
  · obtain ⟨c, rfl⟩ := let_L1 h
    exact ⟨sm_letter h, by show 1 ≤ 3; omega⟩
theorem deed_is {d : Dd.Deed} (hL : DeedL d) : isDeed d.data = true := by
  cases d with
  | copy a e =>
    show (isLetterS a && deedRest "copy" [.str e]) = true
    rw [hL.1]
    exact hL.2
  | tie a e =>
    show (isLetterS a && deedRest "tie" [.str e]) = true
    rw [hL.1]
    exact hL.2
  | next a e =>
    show (isLetterS a && deedRest "next" [.str e]) = true
    rw [hL.1]
    exact hL.2
  | new a =>
    show (isLetterS a && true) = true
    rw [show isLetterS a = true from hL]
    rfl
  | drop a =>
    show (isLetterS a && true) = true
    rw [show isLetterS a = true from hL]
    rfl
theorem deed_dq {H : Hp} {b : Addr} {d : Dd.Deed} (hb : H b = some (.tup (d.row.map V.str))) (hL : DeedL d) : Dq K H (.ref b) d.data ∧ d.data.depth ≤ 3 ∧ wt d.data ≤ 700 ∧ isDeed d.data = true := by
  have L := fun s h => goal_sm (let_goal (s := s) h)
  cases d with
  | copy a e =>
    obtain ⟨a1, a2⟩ := L a hL.1
    obtain ⟨e1, e2⟩ := goal_sm hL.2
    refine ⟨.tup hb (.cons (.str _ (by decide +kernel)) (.cons (.str _ a1) (.cons (.str _ e1) .nil))), ?_, ?_, ?_⟩
    · simp only [Dd.Deed.data, PyData.depth, PyData.depthAll]; omega
    · have : ("copy" : Str).length = 4 := by decide
      simp only [Dd.Deed.data, wt, wtAll]; omega
    · show (isLetterS a && deedRest "copy" [.str e]) = true
      rw [hL.1]
      exact hL.2
  | tie a e =>
    obtain ⟨a1, a2⟩ := L a hL.1
    obtain ⟨e1, e2⟩ := goal_sm hL.2
    refine ⟨.tup hb (.cons (.str _ (by decide +kernel)) (.cons (.str _ a1) (.cons (.str _ e1) .nil))), ?_, ?_, ?_⟩
    · simp only [Dd.Deed.data, PyData.depth, PyData.depthAll]; omega
    · have : ("tie" : Str).length = 3 := by decide
      simp only [Dd.Deed.data, wt, wtAll]; omega
    · show (isLetterS a && deedRest "tie" [.str e]) = true
      rw [hL.1]
      exact hL.2
  | next a e =>
    obtain ⟨a1, a2⟩ := L a hL.1
    obtain ⟨e1, e2⟩ := L e hL.2
    refine ⟨.tup hb (.cons (.str _ (by decide +kernel)) (.cons (.str _ a1) (.cons (.str _ e1) .nil))), ?_, ?_, ?_⟩
    · simp only [Dd.Deed.data, PyData.depth, PyData.depthAll]; omega
    · have : ("next" : Str).length = 4 := by decide
      simp only [Dd.Deed.data, wt, wtAll]; omega
    · show (isLetterS a && deedRest "next" [.str e]) = true
      rw [hL.1]
      exact hL.2
  | new a =>
    obtain ⟨a1, a2⟩ := L a hL
    refine ⟨.tup hb (.cons (.str _ (by decide +kernel)) (.cons (.str _ a1) .nil)), ?_, ?_, ?_⟩
    · simp only [Dd.Deed.data, PyData.depth, PyData.depthAll]; omega
    · have : ("new" : Str).length = 3 := by decide
      simp only [Dd.Deed.data, wt, wtAll]; omega
    · show (isLetterS a && true) = true
      rw [show isLetterS a = true from hL]
      rfl
  | drop a =>
    obtain ⟨a1, a2⟩ := L a hL
    refine ⟨.tup hb (.cons (.str _ (by decide +kernel)) (.cons (.str _ a1) .nil)), ?_, ?_, ?_⟩
    · simp only [Dd.Deed.data, PyData.depth, PyData.depthAll]; omega
    · have : ("drop" : Str).length = 4 := by decide
      simp only [Dd.Deed.data, wt, wtAll]; omega
    · show (isLetterS a && true) = true
      rw [show isLetterS a = true from hL]
      rfl
theorem data_inj {d e : Dd.Deed} (h : d.data = e.data) : e = d := by
  cases d <;> cases e <;> simp [Dd.Deed.data] at h <;> first | (obtain ⟨rfl, rfl⟩ := h; rfl) | (subst h; rfl) | exact absurd h.1 (by decide)
def riP (K : PySem.W.Frag) (C : Addr) (H : Hp) (u a dn dc r : Addr) (ns ds : List (Nat × Nat)) (z : Str) (i : Nat) : L2.St → Hp → Prop := fun σ H' => But u H H' ∧ WellAt H' u ∧ LSt 101 H' a dn dc ns ds ∧ StA K C H' r ns (srt ds) ∧
  ∃ v4 v5 v6 v7 v8 v9 : Option V, (0 < i → ∃ v, v5 = some v) ∧ σ = [some (.ref u), some (.str z), some (.ref a), some (.ref r), v4, v5, v6, v7, v8, v9]
theorem sc_right : FnScope ["_law_well_here", "_law_signs", "_law_mine", "_law_ours", "_law_turn", "_law_act_here", "_law_due_here", "_law_told_here", "_law_odd_here", "_law_other_odd"] ["_law_well_here"] (defScope (top 55)) := ⟨rfl, rfl, rfl, by decide +kernel, rfl, by decide +kernel, by decide +kernel⟩
theorem ok_right {C fi : Addr} {f : Addr} {fd : FuncData} (T : Th mg) (hS : SysD K) (W : StB K C) (L : StM K mg C fi) {p3 g3 : Addr} {fp3 : FuncData} (PT : Prp.PrC P w K mg base 1 C "text" (K39S.spText K C) p3 g3 fp3) (F : FD K "_law_right" (top 55) f fd)
    {f1 f2 f3 f4 f5 f6 f7 f8 f9 f10 : Addr} {fd1 fd2 fd3 fd4 fd5 fd6 fd7 fd8 fd9 fd10 : FuncData}
    (C1 : Cal P w K mg base CX0 2 "_law_pick" ["_law_well_here", "_law_some"] spPick f1 fd1) (C2 : Cal P w K mg base CX0 3 "_law_drawn" ["_law_well_here", "_law_signs", "_law_limit"] spDrawn f2 fd2) (C3 : Cal P w K mg base CX0 7 "_law_store" ["_law_mine"] (spMade K C) f3 fd3) (C4 : Cal P w K mg base CX0 3 "_law_odd" ["_law_well_here"] (spOdd K) f4 fd4)
    (C5 : Cal P w K mg base CX0 3 "_law_one_act" ["_law_well_here", "_law_signs"] spAct f5 fd5) (C6 : Cal P w K mg base CX0 3 "_law_great" ["_law_well_here", "_law_signs"] spGreat f6 fd6) (C7 : Cal P w K mg base CX0 9 "_law_told" ["_law_first", "_law_second", "_law_is_named"] (spTold K C) f7 fd7) (C8 : Cal P w K mg base CX0 4 "_law_due" ["_law_mine", "_law_act_here"] (spDue K) f8 fd8)
    (C9 : Cal P w K mg base CX0 1 "_law_take" ["_law_well_here", "_law_limit"] spTake f9 fd9) (C10 : Cal P w K mg base CX0 1 "_law_shown" ["_law_mine"] spTxt f10 fd10) : Ga.FnG P w K mg base CX0 11 f fd ["_law_well_here"] spG := by
  obtain ⟨g_law_pick, k_law_pick, b_law_pick, F_law_pick⟩ := C1
  obtain ⟨g_law_drawn, k_law_drawn, b_law_drawn, F_law_drawn⟩ := C2
  obtain ⟨g_law_store, k_law_store, b_law_store, F_law_store⟩ := C3
  obtain ⟨g_law_odd, k_law_odd, b_law_odd, F_law_odd⟩ := C4
  obtain ⟨g_law_one_act, k_law_one_act, b_law_one_act, F_law_one_act⟩ := C5
  obtain ⟨g_law_great, k_law_great, b_law_great, F_law_great⟩ := C6
  obtain ⟨g_law_told, k_law_told, b_law_told, F_law_told⟩ := C7
  obtain ⟨g_law_due, k_law_due, b_law_due, F_law_due⟩ := C8
  obtain ⟨g_law_take, k_law_take, b_law_take, F_law_take⟩ := C9
  obtain ⟨g_law_shown, k_law_shown, b_law_shown, F_law_shown⟩ := C10
  refine Ga.FnG.mk' F sc_right (fun vs H Q E h => ?_) (fun cdv A outer s' H vs Q E hG hr h => ?_)
  · obtain ⟨_, rfl, _⟩ := h
    rfl
  · obtain ⟨u, rfl, hw, k⟩ := h
    have nd := sc_right.nd
    have zl : (1000000 : Nat) ≤ sizeLine := line_big
    refine ⟨_, (pss_cons (ps_set (i := 1) nd rfl (Or.inl rfl) (pe_call F_law_pick (hr.mono (by omega)) rfl g_law_pick k_law_pick b_law_pick .nil pass0 (pa_cons (pv 0) (pa_cons (pe_tup (pa_cons pe_str (pa_cons pe_str (pa_cons pe_str (pa_cons pe_str pa_nil))))) pa_nil))))
        (pss_cons (ps_set (i := 2) nd rfl (Or.inl rfl) (pe_ifExp (pt_cmpR op_eq (pe_call F_law_take (hr.mono (by omega)) rfl g_law_take k_law_take b_law_take .nil pass0 (pa_cons (pv 0) (pa_cons pe_int pa_nil))) pe_int (nomark _)) (pe_call F_law_great (hr.mono (by omega)) rfl g_law_great k_law_great b_law_great .nil pass0 (pa_cons (pv 0) (pa_cons (pv 1) pa_nil))) (pe_call F_law_drawn (hr.mono (by omega)) rfl g_law_drawn k_law_drawn b_law_drawn .nil pass0 (pa_cons (pv 0) (pa_cons (pv 1) (pa_cons pe_int pa_nil))))))
        (pss_cons (ps_set (i := 3) nd rfl (Or.inl rfl) (pe_call F_law_store (hr.mono (by omega)) rfl g_law_store k_law_store b_law_store .nil pass0 (pa_cons (pv 2) pa_nil)))
        (pss_cons (ps_for (passes_of rfl) rfl (pi_range1 rfl T.b_range (pa_cons pe_int pa_nil)) (pg_name (i := 4) nd rfl (Or.inl rfl)) (pss_cons (ps_set (i := 5) nd rfl (Or.inl rfl) (pe_call F_law_one_act (hr.mono (by omega)) rfl g_law_one_act k_law_one_act b_law_one_act .nil pass0 (pa_cons (pv 0) (pa_cons (pe_op op_add_str (pe_op Mu.op_mulS (pv 1) pe_int) pe_str) pa_nil))))
        (pss_cons (ps_par rfl nd (i := 6) (j := 7) rfl rfl (by decide) rfl rfl (pa_cons (pe_call F_law_due (hr.mono (by omega)) rfl g_law_due k_law_due b_law_due .nil pass0 (pa_cons (pv 2) (pa_cons (pv 5) pa_nil))) (pa_cons (pe_call F_law_told (hr.mono (by omega)) rfl g_law_told k_law_told b_law_told .nil pass0 (pa_cons (pv 3) (pa_cons (pv 5) (pa_cons (pe_cmpR op_eq (pv 4) pe_int (nomark _)) pa_nil)))) pa_nil)) rfl)
        (pss_one (ps_if (pt_cmpR op_eq (pe_ix (r := rIxL K) ix_list (pv 6) pe_int (fun _ _ => rfl)) pe_str (nomark _)) (pss_one (ps_if (PW.pt (pw_or (pt_cmpR op_ne (pe_ix (r := rIxL K) ix_list (pv 7) pe_int (fun _ _ => rfl)) pe_str (nomark _)) (pw_or (pt_not (pt_val (pe_callB call_isi (by rfl) T.b_isinstance (by decide +kernel) (pa_cons (pe_ix (r := rIxL K) ix_list (pv 7) pe_int (fun _ _ => rfl)) (pa_cons (pe_glob (v := .ref C) rfl L.g rfl) pa_nil))))) (pw_or1 (pt_cmpR op_ne (Prp.pe_propK rfl rfl rfl rfl rfl (pe_ix (r := rIxL K) ix_list (pv 7) pe_int (fun _ _ => rfl)) W.cl PT (hr.mono (by omega)) pass0 rfl) (pe_call F_law_shown (hr.mono (by omega)) rfl g_law_shown k_law_shown b_law_shown .nil pass0 (pa_cons (pe_ix (r := rIxL K) ix_list (pv 6) pe_int (fun _ _ => rfl)) pa_nil)) (nomark _)))))) (pss_one (ps_ret pe_bl)) pss_nil)) (pss_one (ps_if (pt_cmpR op_ne (pe_callB (Rl.call_reprL (K := K) rfl hS hG hr.units) (by rfl) T.b_repr (by decide +kernel) (pa_cons (pv 7) pa_nil)) (pe_callB (Rl.call_reprL (K := K) rfl hS hG hr.units) (by rfl) T.b_repr (by decide +kernel) (pa_cons (pv 6) pa_nil)) (nomark _)) (pss_one (ps_ret pe_bl)) pss_nil)))))))
        (pss_cons (ps_par rfl nd (i := 8) (j := 9) rfl rfl (by decide) rfl rfl (pa_cons (pe_call F_law_odd (hr.mono (by omega)) rfl g_law_odd k_law_odd b_law_odd .nil pass0 (pa_cons (pv 0) pa_nil)) (pa_cons (pe_call F_law_pick (hr.mono (by omega)) rfl g_law_pick k_law_pick b_law_pick .nil pass0 (pa_cons (pv 0) (pa_cons (pe_tup (pa_cons pe_non (pa_cons (pe_tup (pa_cons pe_str (pa_cons pe_str pa_nil))) (pa_cons (pe_tup (pa_cons pe_str (pa_cons pe_str (pa_cons pe_str pa_nil)))) (pa_cons (pe_tup (pa_cons pe_str (pa_cons pe_str (pa_cons pe_str pa_nil)))) (pa_cons (pe_lst (pa_cons pe_str (pa_cons pe_str pa_nil))) (pa_cons pe_str (pa_cons (pe_tup (pa_cons pe_str (pa_cons pe_str pa_nil))) (pa_cons (pe_tup pa_nil) pa_nil))))))))) pa_nil))) pa_nil)) rfl)
        (pss_cons (ps_if (PW.pt (pw_or (pt_cmpR op_ne (pe_callB (Rl.call_reprL (K := K) rfl hS hG hr.units) (by rfl) T.b_repr (by decide +kernel) (pa_cons (pe_call F_law_told (hr.mono (by omega)) rfl g_law_told k_law_told b_law_told .nil pass0 (pa_cons (pv 8) (pa_cons (pv 9) (pa_cons pe_bl pa_nil)))) pa_nil)) (pe_callB (Rl.call_reprL (K := K) rfl hS hG hr.units) (by rfl) T.b_repr (by decide +kernel) (pa_cons (pe_lst (pa_cons pe_str (pa_cons (pv 8) pa_nil))) pa_nil)) (nomark _)) (pw_or1 (pt_cmpR op_ne (pe_callB (Rl.call_reprL (K := K) rfl hS hG hr.units) (by rfl) T.b_repr (by decide +kernel) (pa_cons (pe_call F_law_told (hr.mono (by omega)) rfl g_law_told k_law_told b_law_told .nil pass0 (pa_cons (pv 8) (pa_cons (pv 5) (pa_cons pe_bl pa_nil)))) pa_nil)) (pe_callB (Rl.call_reprL (K := K) rfl hS hG hr.units) (by rfl) T.b_repr (by decide +kernel) (pa_cons (pe_lst (pa_cons pe_str (pa_cons (pv 8) pa_nil))) pa_nil)) (nomark _))))) (pss_one (ps_ret pe_bl)) pss_nil)
        (pss_one (ps_ret (pe_and (pe_cmpR op_eq (pe_callB (Rl.call_reprL (K := K) rfl hS hG hr.units) (by rfl) T.b_repr (by decide +kernel) (pa_cons (pe_call F_law_told (hr.mono (by omega)) rfl g_law_told k_law_told b_law_told .nil pass0 (pa_cons (pv 3) (pa_cons (pv 9) (pa_cons pe_bl pa_nil)))) pa_nil)) (pe_callB (Rl.call_reprL (K := K) rfl hS hG hr.units) (by rfl) T.b_repr (by decide +kernel) (pa_cons (pe_lst (pa_cons pe_str (pa_cons (pv 9) pa_nil))) pa_nil)) (nomark _)) (pe_one (pe_cmpR op_eq (Prp.pe_propK rfl rfl rfl rfl rfl (pv 3) W.cl PT (hr.mono (by omega)) pass0 rfl) (pe_call F_law_shown (hr.mono (by omega)) rfl g_law_shown k_law_shown b_law_shown .nil pass0 (pa_cons (pv 2) pa_nil)) (nomark _)))))))))))), ?_⟩
    refine sq fun U hU => ?_
    walk_at "rd"
    refine ⟨by decide, fun p0 hp0 => ?_⟩
    have g1 : Same H (upd H p0 (.tup [.str "x", .str "xy", .str "xyz", .str "bhqz"])) := same_new hp0
    refine ⟨u, .ref p0, _, rfl, hw.but g1, (fun q => hw.ne hp0 (by cases q; rfl)), .tup upd_same, (by decide : 1 ≤ 4), (by decide : 4 ≤ 1000), fun y H1 b1 w1 hy => ?_⟩
    obtain ⟨z, rfl, hz⟩ : ∃ z : Str, y = .str z ∧ (z = "x" ∨ z = "xy" ∨ z = "xyz" ∨ z = "bhqz") := by
      simp only [List.mem_cons, List.not_mem_nil, or_false] at hy
      rcases hy with rfl | rfl | rfl | rfl
      · exact ⟨_, rfl, .inl rfl⟩
      · exact ⟨_, rfl, .inr (.inl rfl)⟩
      · exact ⟨_, rfl, .inr (.inr (.inl rfl))⟩
      · exact ⟨_, rfl, .inr (.inr (.inr rfl))⟩
    refine hU _ _ ?_
    clear hU hy
    have zk : z.cps.toList.Pairwise (· < ·) ∧ (∀ c ∈ z.cps.toList, 97 ≤ c ∧ c ≤ 122) ∧ 1 ≤ z.cps.toList.length ∧ z.cps.toList.length ≤ 4 := by
      rcases hz with rfl | rfl | rfl | rfl <;> decide +kernel
    have zs : SgZ (Txt.mul z 4 ++ Str.ofString "e") := by
      rcases hz with rfl | rfl | rfl | rfl <;> (unfold SgZ; decide +kernel)
    have zlen : z.length ≤ 10000 := by rcases hz with rfl | rfl | rfl | rfl <;> decide
    have B1 : But u H H1 := (But.same g1).trans b1
    refine sq fun U hU => ?_
    walk_at "rd"
    have go : ∀ (a dn dc : Addr) (ns ds : List (Nat × Nat)) (H2 : Hp), But u H1 H2 → WellAt H2 u → LSt 101 H2 a dn dc ns ds → a ≠ u → dn ≠ u → dc ≠ u → U [some (.ref u), some (.str z), some (.ref a), none, none, none, none, none, none, none] H2 := by
      intro a dn dc ns ds H2 b2 w2 hls nau nnu ncu
      refine hU _ _ ?_
      clear hU
      have B2 := B1.trans b2
      refine sq fun U hU => ?_
      walk_at "rd"
      refine ⟨101, a, dn, dc, ns, ds, rfl, hls, by decide, fun r H3 s3 hst => hU _ _ ?_⟩
      clear hU
      have B3 := B2.trans (But.same s3)
      have w3 := w2.but s3
      have hls3 := LSt.up hls s3
      clear b1 b2 w1 w2 B1 B2 s3 g1 hp0 hls
      refine sq fun U hU => ?_
      walk_at "rd"
      refine ⟨by decide, by decide, for_r (riP K C H u a dn dc r ns ds z) ⟨B3, w3, hls3, hst, none, none, none, none, none, none, fun q => absurd q (by decide), rfl⟩ ?_ ?_⟩
      · rintro i σ H5 hi ⟨hb, wl, hls, hst, v4, v5, v6, v7, v8, v9, hv5, rfl⟩
        simp only [gName_, List.set_cons_succ, List.set_cons_zero]
        refine sq fun V2 hV => ?_
        walk_at "rd"
        refine ⟨z, 4, rfl, rfl, by decide, by decide, zlen, _, rfl, ?_, u, _, rfl, wl, zs, fun b d H6 b6 w6 zb hb6 din => hV _ _ ?_⟩
        · have e : (Txt.mul z 4 ++ Str.ofString "e").length ≤ 100 := zs.2.1
          rw [Str.length_append] at e
          omega
        clear hV
        have hL := deed_in zs din
        have hls6 := LSt.but hls b6 nau nnu ncu
        have hst6 := StA.but2 b6 wl hst
        have B6 := hb.trans b6
        clear hb wl hls hst b6 din zb
        obtain ⟨hq6, hd1, hd2, hd3⟩ := deed_dq (K := K) hb6 hL
        have hlen : (srt ds).length = ds.length := srt_len ds
        obtain ⟨nd1, nd2⟩ : (ds.map (·.1)).Nodup ∧ ((srt ds).map (·.1)).Nodup := ⟨hls6.2.2.2.2.2.2, ((srt_perm ds).map _).nodup_iff.mpr hls6.2.2.2.2.2.2⟩
        refine sq fun V2 hV => ?_
        walk_at "rd"
        have endI : ∀ H', Same H6 H' → ∀ v6 v7 : Option V, riP K C H u a dn dc r ns ds z (i + 1) [some (.ref u), some (.str z), some (.ref a), some (.ref r), some (.int (0 + i)), some (.ref b), v6, v7, v8, v9] H' := fun H' s v6 v7 =>
          ⟨B6.trans (But.same s), w6.but s, LSt.up hls6 s, hst6.up s, _, _, _, _, _, _, fun _ => ⟨_, rfl⟩, rfl⟩
        have errs : ∀ (w' : Str) (l : List V) (e : List PyData) (H7 H8 : Hp) (D D2 : Addr), w' ≠ "done" → l.head? = some (.str w') → Same H6 H7 → Same H7 H8 → H7 D = some (.lst l) → H8 D2 = some (.lst l) → DqAll K H8 l e → PyData.depthAll e ≤ 49 → wtAll e ≤ 1000000 →
            V2 [some (.ref u), some (.str z), some (.ref a), some (.ref r), some (.int (0 + i)), some (.ref b), some (.ref D), some (.ref D2), v8, v9] H8 := fun w' l e H7 H8 D D2 hw' hh s7 s8 hD hD2 q1 q2 q3 => by
          refine hV _ _ ?_
          clear hV
          have at0 : atI l 0 = some (.str w') := atI_nn (by decide) (by rw [← hh, List.head?_eq_getElem?]; rfl)
          walk_at "rd"
          refine ⟨_, SqL.of (s8 _ _ hD), _, at0, ?_⟩
          rw [eq_ss]
          refine ⟨_, rfl, ?_⟩
          rw [decide_eq_false hw', if_neg (by decide)]
          refine ⟨_, hD2, _, q1, q2, q3, _, s8 _ _ hD, _, q1, q2, q3, ?_⟩
          rw [if_neg (fun z => z rfl)]
          exact endI _ (s7.trans s8) _ _
        have tell : ∀ (H7 : Hp) (Q' : VK), Same H6 H7 → (∀ s, miss ns (letL d.words) = some s → Rt H7 Q' [.str "name", .str s]) → (miss ns (letL d.words) = none → (100 < ds.length → Rt H7 Q' [.str "many", .int (ds.length : Nat)]) ∧ (ds.length ≤ 100 → (Dd.act d ns ds (ds.map (·.1)) = none → Rt H7 Q' [.str "failed", .ref b, .bl true]) ∧
            (∀ p n1 c1, Dd.act d ns ds (ds.map (·.1)) = some (p, n1, c1) → ∀ r' D H', Same H7 H' → StA K C H' r' n1 (srt c1) → H' D = some (.lst [.str "done", .ref r']) → Q' (.ref D) H'))) →
            spTold K C [.ref r, .ref b, .bl (decide (0 + (i : Int) = 1))] H7 Q' E0 := fun H7 Q' s7 e1 e2 => by
          refine ⟨_, _, _, d.data, rfl, .inr ⟨r, ns, srt ds, rfl, hst6.up s7, hq6.up s7, fun e => (by rw [hd3] at e; cases e), fun dd ed _ => ?_⟩⟩
          obtain rfl := (data_inj ed).symm
          rw [hlen]
          refine ⟨e1, fun mn => ⟨(e2 mn).1, fun hl => ?_⟩⟩
          obtain ⟨k1, k2⟩ := (e2 mn).2 hl
          rcases Dd.act_perm (d := d) (ns := ns) (srt_perm ds) nd2 (us := (srt ds).map (·.1)) (ws := ds.map (·.1)) (fun x => ((srt_perm ds).map (·.1)).mem_iff) with ⟨x1, x2⟩ | ⟨q, n1, c1, c2, x1, x2, px⟩
          · exact ⟨fun _ => k1 x2, fun p n1 c1 e => (by rw [x1] at e; cases e)⟩
          · refine ⟨fun e => (by rw [x1] at e; cases e), fun p n1' c1' e r' D H' s st => ?_⟩
            rw [x1] at e
            cases e
            have ok := (Dd.act_ok (m := 100) hls6.2.2.2.1 ⟨hl, hls6.2.2.2.2.2.1, nd1⟩ (hL.known mn).known (by have := hls6.2.2.2.1.2.1; rw [List.length_map]; omega) x2).2.1
            have : srt c1 = srt c2 := srt_uniq ((srt_perm c1).trans px) (srt_le c1) ok.2.2
            rw [this] at st
            exact k2 _ _ _ x2 r' D H' s st
        refine ⟨101, a, dn, dc, b, ns, ds, d, rfl, hls6, by decide, hb6, hL, fun s ms => ?_, fun ms => ⟨fun hg => ?_, fun hl => ⟨fun ea => ?_, fun p n1 c1 ea => ?_⟩⟩⟩
        · intro D H7 s7 hD7
          refine tell H7 _ s7 (fun s' ms' D2 H8 s8 hD2 => ?_) (fun mn => by rw [ms] at mn; cases mn)
          rw [ms] at ms'
          cases ms'
          have hm : s ∈ letL d.words := List.mem_of_find?_eq_some ms
          obtain ⟨q1, q2, q3⟩ := two_ok (K := K) (H := H8) (s := "name") (by decide +kernel) (by decide) (.str s (sm_letter (letL_letter hm))) (by simp only [PyData.depth]; omega) (by have := (goal_sm (let_goal (letL_letter hm))).2; simp only [wt]; omega)
          exact errs "name" _ _ H7 H8 D D2 (by decide) rfl s7 s8 hD7 hD2 q1 q2 q3
        · intro D H7 s7 hD7
          refine tell H7 _ s7 (fun s' ms' => by rw [ms] at ms'; cases ms') (fun mn => ⟨fun _ D2 H8 s8 hD2 => ?_, fun hl => by omega⟩)
          have hl := hls6.2.2.2.2.1
          obtain ⟨q1, q2, q3⟩ := two_ok (K := K) (H := H8) (s := "many") (by decide +kernel) (by decide) (.int (ds.length : Nat) (by omega)) (by simp only [PyData.depth]; omega) (by simp only [wt]; omega)
          exact errs "many" _ _ H7 H8 D D2 (by decide) rfl s7 s8 hD7 hD2 q1 q2 q3
        · intro D H7 s7 hD7
          refine tell H7 _ s7 (fun s' ms' => by rw [ms] at ms'; cases ms') (fun mn => ⟨fun hg => by omega, fun _ => ⟨fun _ D2 H8 s8 hD2 => ?_, fun p n1 c1 e => by rw [ea] at e; cases e⟩⟩)
          obtain ⟨q1, q2, q3⟩ := three_ok (K := K) (H := H8) (s := "failed") (b := true) (by decide +kernel) (by decide) ((hq6.up s7).up s8) (by omega) (by omega)
          exact errs "failed" _ _ H7 H8 D D2 (by decide) rfl s7 s8 hD7 hD2 q1 q2 q3
        · intro a' dn' dc' D H7 s7 hls7 hD7
          refine tell H7 _ s7 (fun s' ms' => by rw [ms] at ms'; cases ms') (fun mn => ⟨fun hg => by omega, fun _ => ⟨fun e => (by rw [ea] at e; cases e), fun p' n1' c1' e r' D2 H8 s8 st hD2 => ?_⟩⟩)
          rw [ea] at e
          cases e
          refine hV _ _ ?_
          clear hV
          walk_at "rd"
          refine ⟨_, SqL.of (s8 _ _ hD7), _, atI_nn (by decide) rfl, ?_⟩
          rw [eq_ss]
          refine ⟨_, rfl, ?_⟩
          rw [decide_eq_true rfl, if_pos rfl]
          refine ⟨_, SqL.of hD2, _, atI_nn (by decide) rfl, ?_⟩
          rw [ne_ss]
          refine ⟨_, rfl, ?_⟩
          rw [decide_eq_true rfl, if_neg (by decide)]
          obtain ⟨dx8, an8, ac8, dp8, da8, hr8, _⟩ := id st
          refine ⟨_, SqL.of hD2, _, atI_nn (by decide) rfl, ?_⟩
          refine ⟨_, _, .ref C, .ref C, true, rfl, .own C, .base (.ins hr8 L.own.cl L.own.ha L.own.hn L.own.ht L.own.hm), kit_self, true, rfl, ?_⟩
          rw [if_neg (by decide)]
          refine ⟨_, SqL.of hD2, _, atI_nn (by decide) rfl, r', rfl, _, _, hr8, r', n1, srt c1, rfl, st, fun H9 s9 => ⟨_, SqL.of (s9 _ _ (s8 _ _ hD7)), _, atI_nn (by decide) rfl, 101, a', dn', dc', n1, c1, rfl, LSt.up hls7 (s8.trans s9), by decide, fun H10 s10 => ?_⟩⟩
          walk_at "rd"
          exact endI _ (s7.trans (s8.trans (s9.trans s10))) _ _
      rintro σ H5 ⟨hb, wl, hls, hst, v4, v5, v6, v7, v8, v9, hv5, rfl⟩
      obtain ⟨act, rfl⟩ := hv5 (by decide)
      refine hU _ _ ?_
      clear hU
      refine sq fun U hU => ?_
      walk_at "rd"
      refine ⟨u, rfl, wl, fun o od H6 b6 w6 ho od1 od2 => ?_⟩
      have B6 := hb.trans b6
      have hls6 := LSt.but hls b6 nau nnu ncu
      have hst6 := StA.but2 b6 wl hst
      clear hb wl hls hst b6
      refine ⟨by decide, fun q1 hq1 => ?_⟩
      have sq1 := fun o : HO => same_new (o := o) hq1
      refine ⟨by decide, fun q2 hq2 => ?_⟩
      have sq2 := fun o : HO => same_new (o := o) hq2
      refine ⟨by decide, fun q3 hq3 => ?_⟩
      have sq3 := fun o : HO => same_new (o := o) hq3
      refine ⟨by decide, fun q4 hq4 => ?_⟩
      have sq4 := fun o : HO => same_new (o := o) hq4
      refine ⟨by decide, fun q5 hq5 => ?_⟩
      have sq5 := fun o : HO => same_new (o := o) hq5
      refine ⟨by decide, fun q6 hq6 => ?_⟩
      have sq6 := fun o : HO => same_new (o := o) hq6
      refine ⟨by decide, fun q7 hq7 => ?_⟩
      have sq7 := fun o : HO => same_new (o := o) hq7
      refine pickD (K := K) (t := fun d => !isDeed d) (n := 3) (m := 700) (ds := [.none, .tuple [.str "copy", .str "x"], .tuple [.str "new", .str "x", .str "y"], .tuple [.str "next", .str "x", .str "END"], .list [.str "new", .str "x"], .str "drop x", .tuple [.str "drop", .str "X"], .tuple []]) (w6.but (Same.trans (Same.trans (Same.trans (Same.trans (Same.trans (Same.trans (sq1 _) (sq2 _)) (sq3 _)) (sq4 _)) (sq5 _)) (sq6 _)) (sq7 _))) upd_same
        (.cons .non (.cons (.tup (sq7 _ _ _ (sq6 _ _ _ (sq5 _ _ _ (sq4 _ _ _ (sq3 _ _ _ (sq2 _ _ _ upd_same)))))) (.cons (.str _ (by decide +kernel)) (.cons (.str _ (by decide +kernel)) .nil))) (.cons (.tup (sq7 _ _ _ (sq6 _ _ _ (sq5 _ _ _ (sq4 _ _ _ (sq3 _ _ _ upd_same))))) (.cons (.str _ (by decide +kernel)) (.cons (.str _ (by decide +kernel)) (.cons (.str _ (by decide +kernel)) .nil)))) (.cons (.tup (sq7 _ _ _ (sq6 _ _ _ (sq5 _ _ _ (sq4 _ _ _ upd_same)))) (.cons (.str _ (by decide +kernel)) (.cons (.str _ (by decide +kernel)) (.cons (.str _ (by decide +kernel)) .nil)))) (.cons (.lst (sq7 _ _ _ (sq6 _ _ _ (sq5 _ _ _ upd_same))) (by decide) (.cons (.str _ (by decide +kernel)) (.cons (.str _ (by decide +kernel)) .nil))) (.cons (.str _ (by decide +kernel)) (.cons (.tup (sq7 _ _ _ (sq6 _ _ _ upd_same)) (.cons (.str _ (by decide +kernel)) (.cons (.str _ (by decide +kernel)) .nil))) (.cons (.tup (sq7 _ _ _ upd_same) .nil) .nil)))))))) (by decide +kernel) (show 1 ≤ 8 by decide) (show 8 ≤ 1000 by decide) fun y d H7 b7 w7 hy hd1 hd2 hd3 => hU _ _ ?_
      clear hU
      have ho7 := dq_but b7 (w6.but (Same.trans (Same.trans (Same.trans (Same.trans (Same.trans (Same.trans (sq1 _) (sq2 _)) (sq3 _)) (sq4 _)) (sq5 _)) (sq6 _)) (sq7 _))) (ho.up (Same.trans (Same.trans (Same.trans (Same.trans (Same.trans (Same.trans (sq1 _) (sq2 _)) (sq3 _)) (sq4 _)) (sq5 _)) (sq6 _)) (sq7 _)))
      have B7 := (B6.trans (But.same (Same.trans (Same.trans (Same.trans (Same.trans (Same.trans (Same.trans (sq1 _) (sq2 _)) (sq3 _)) (sq4 _)) (sq5 _)) (sq6 _)) (sq7 _)))).trans b7
      have hls7 := LSt.but (LSt.up hls6 (Same.trans (Same.trans (Same.trans (Same.trans (Same.trans (Same.trans (sq1 _) (sq2 _)) (sq3 _)) (sq4 _)) (sq5 _)) (sq6 _)) (sq7 _))) b7 nau nnu ncu
      have hst7 := StA.but2 b7 (w6.but (Same.trans (Same.trans (Same.trans (Same.trans (Same.trans (Same.trans (sq1 _) (sq2 _)) (sq3 _)) (sq4 _)) (sq5 _)) (sq6 _)) (sq7 _))) (hst6.up (Same.trans (Same.trans (Same.trans (Same.trans (Same.trans (Same.trans (sq1 _) (sq2 _)) (sq3 _)) (sq4 _)) (sq5 _)) (sq6 _)) (sq7 _)))
      clear B6 hls6 hst6
      have tw : ∀ H, Dq K H o od → _ := fun H h => two_ok (K := K) (H := H) (s := Str.ofString "store") (by decide +kernel) (by decide) h (by omega) (by omega)
      have tt : ∀ H, Dq K H y d → _ := fun H h => two_ok (K := K) (H := H) (s := Str.ofString "deed") (by decide +kernel) (by decide) h (by omega) (by omega)
      refine sq fun U hU => ?_
      refine iq fun T1 U1 hT1 hU1 => ?_
      walk_at "rd"
      refine ⟨_, _, _, .none, rfl, .inl ⟨od, ho7, fun D H8 s8 hD => ?_⟩⟩
      have ho8 := ho7.up s8
      refine ⟨D, rfl, _, hD, _, (tw _ ho8).1, (tw _ ho8).2.1, (tw _ ho8).2.2, by omega, fun p hp => ?_⟩
      have s9 := same_new (o := .lst [.str (Str.ofString "store"), o]) hp
      have ho9 := ho8.up s9
      refine ⟨_, upd_same, _, (tw _ ho9).1, (tw _ ho9).2.1, (tw _ ho9).2.2, ?_⟩
      have s79 := s8.trans s9
      generalize upd H8 p (.lst [.str (Str.ofString "store"), o]) = H9 at s9 ho9 s79 ⊢
      walk_at "rd"
      refine ⟨_, _, _, .none, rfl, .inl ⟨od, ho9, fun D2 H10 s10 hD2 => ?_⟩⟩
      have ho10 := ho9.up s10
      refine ⟨D2, rfl, _, hD2, _, (tw _ ho10).1, (tw _ ho10).2.1, (tw _ ho10).2.2, by omega, fun p2 hp2 => ?_⟩
      have s11 := same_new (o := .lst [.str (Str.ofString "store"), o]) hp2
      have ho11 := ho10.up s11
      refine ⟨_, upd_same, _, (tw _ ho11).1, (tw _ ho11).2.1, (tw _ ho11).2.2, ?_⟩
      rw [if_neg (fun z => z rfl)]
      have s711 := s79.trans (s10.trans s11)
      generalize upd H10 p2 (.lst [.str (Str.ofString "store"), o]) = H11 at s11 ho11 s711 ⊢
      refine hU1 _ ?_
      clear hT1 hU1
      walk_at "rd"
      refine hU _ _ ?_
      clear hU
      have hy11 := hy.up s711
      have hst11 := hst7.up s711
      have hls11 := LSt.up hls7 s711
      walk_at "rd"
      refine ⟨_, _, _, d, rfl, .inr ⟨r, ns, srt ds, rfl, hst11, hy11, fun e D3 H12 s12 hD3 => ?_, fun dd ed hL => ?_⟩⟩
      · have hy12 := hy11.up s12
        refine ⟨D3, rfl, _, hD3, _, (tt _ hy12).1, (tt _ hy12).2.1, (tt _ hy12).2.2, by omega, fun p3 hp3 => ?_⟩
        have s13 := same_new (o := .lst [.str (Str.ofString "deed"), y]) hp3
        refine ⟨_, upd_same, _, (tt _ (hy12.up s13)).1, (tt _ (hy12.up s13)).2.1, (tt _ (hy12.up s13)).2.2, ?_⟩
        have s713 := s711.trans (s12.trans s13)
        generalize upd H12 p3 (.lst [.str (Str.ofString "deed"), y]) = H13 at s13 s713 ⊢
        rw [if_pos rfl]
        have hst13 := hst7.up s713
        have hls13 := LSt.up hls7 s713
        obtain ⟨dx7, an7, ac7, dp7, da7, hr7, _⟩ := id hst13
        refine ⟨_, _, hr7, r, ns, srt ds, rfl, hst13, fun H14 s14 => ⟨101, a, dn, dc, ns, ds, rfl, LSt.up hls13 s14, by decide, fun H15 s15 => ?_⟩⟩
        show rEq _ _ _ _
        rw [eq_ss, decide_eq_true rfl]
        exact k _ (B7.trans (But.same (s713.trans (s14.trans s15)))) (w7.but (s713.trans (s14.trans s15)))
      · have : isDeed dd.data = true := deed_is hL
        rw [← ed] at this
        rw [this] at hd3
        cases hd3
    refine ⟨u, 5, rfl, w1, by decide, by decide, fun t H2 b2 w2 t0 t1 => ?_⟩
    show rEq (.int t) (.int 0) H2 _
    rw [eq_ii]
    refine ⟨_, rfl, ?_⟩
    split
    · exact ⟨u, z, rfl, w2, zk.1, zk.2.1, zk.2.2.1, zk.2.2.2, fun a dn dc ns ds H3 b3 w3 hls en nau nnu ncu => go a dn dc ns ds H3 (b2.trans b3) w3 hls nau nnu ncu⟩
    · exact ⟨u, z, rfl, w2, zk.1, zk.2.1, zk.2.2.1, zk.2.2.2, fun a dn dc ns ds H3 b3 w3 hls en nau nnu ncu => go a dn dc ns ds H3 (b2.trans b3) w3 (LSt.le hls (by decide)) nau nnu ncu⟩
end
end K39

set_option Elab.async false
set_option linter.all false
set_option maxRecDepth 100000
set_option maxHeartbeats 4000000
namespace K39
open PySem PySem.Spec PyProof.Rows L2 Rd Dt Dq Pk Ln En Sx Sy So Sr Lk TL
open K39S (StA StB StM LSt HpA HpB spMade spTxt map_at kit_self sorted_names keys_n keys_c get_n get_d DcOk asc_nodup nuP nuP_step vN)
local macro_rules | `(tactic| walk_at "rd") => `(tactic| try simp only [↓De.tFor_str, ↓Lk.tLockE_, ↓Lk.tLock_, ↓Lk.tLc_keys, ↓Lk.tFor_keys, ↓Sy.tTupP_, ↓Sy.rTupP_, ↓Sy.rCatP_, ↓Sy.rSlP_, ↓Sy.rDictT_, ↓Sy.tDGet_, ↓Sy.tDGet1_, ↓Sy.tDIn_, ↓Sy.tDNotIn_, ↓Sy.tMeth_, ↓Sy.tMethKw_, ↓Sy.rSortedS_, ↓Sx.rIsT_, ↓En.tFor_enumT, ↓Sy.tFor_enumL, ↓Rv.tMakeKw_, ↓Prp.tProp_, ↓Lo.tBits_, ↓Lo.tJs_n, ↓Lo.tJs_c, ↓Lo.tFmt_, ↓Lo.gFld_, ↓Lo.tMake_, ↓Lo.rOwn_, ↓Rg.tFor_range3, ↓Rg.tLc_range3, ↓Rg.tLstC_, ↓Rg.tLc_rngV, ↓Le.rNeLE_, ↓Le.rEqLE_, ↓Ls.tLc_str, ↓Ls.sDPut_, ↓Rl.rReprL_, ↓Rl.tCallKS_, ↓Ob.tFld_, ↓Ob.sFld_, ↓tVar_, ↓tC_, ↓tM1, ↓tDNewK_, ↓tOp_, ↓tUn_, ↓rI_, ↓rI0_, ↓rU_, ↓eq_ii, ↓ne_ii, ↓eq_ss, ↓ne_ss, ↓eq_bb, ↓ne_bb, ↓tAndV_, ↓tOrV_, ↓tNotV_, ↓tIf_, ↓tTest_, ↓tB_, ↓tAnd_, ↓tOr_, ↓tNot_, ↓tChain_, ↓tNil_, ↓tCons_, ↓tTup_, ↓tLst_, ↓tCB_, ↓tCall_, ↓tSeq_, ↓tNext_, ↓tRet_, ↓tRetN_, ↓tDrop_, ↓tBreak_, ↓tNever_, ↓tIfS_, ↓tAsg_, ↓gName_, ↓gTup_, ↓gCons_, ↓gNil_, ↓gSub_, ↓tPar_, ↓tPar3_, ↓tSl_, ↓tNoPart_, ↓tPart_, ↓tBM_, ↓tFor_range1, ↓tFor_range2, ↓tFor_list, ↓tFor_tup, L2.start, List.headD_cons, List.headD_nil, List.tail_cons, List.map_cons, List.map_nil, List.length_cons, List.length_nil, List.replicate, List.append_nil, List.nil_append, List.cons_append, List.getElem?_cons_zero, List.getElem?_cons_succ, List.set_cons_zero, List.set_cons_succ, Option.some.injEq, V.int.injEq, V.bl.injEq, V.str.injEq, V.ref.injEq, exists_eq_left, exists_eq_left', exists_eq_right, exists_eq, exists_and_left, and_true, true_and, decide_eq_true_eq, Nat.reduceAdd, Nat.reduceSub, Nat.add_zero, Nat.zero_add, List.cons.injEq, Bool.not_eq_true', decide_eq_false_iff_not, eq_self, reduceCtorEq, Bool.false_eq_true, if_true, if_false, ite_true, ite_false, and_self, ↓tLc_range1, ↓tLc_range2, ↓tLc_list, ↓tLc_tup, ↓tYes_, wipe0, wipe1, ↓tCallS_, ↓rIxL_, ↓rIxT_, ↓rSlL_, ↓rCat_, ↓rSetL_, ↓rRep_, ↓rGcd_, ↓tCallK_, ↓gUnl_, ↓tRaise_, decide_true, decide_false, not_true_eq_false, not_false_eq_true, false_and, or_false, false_or, and_false, and_assoc, exists_const, forall_const, forall_eq'])
section
variable {P : Program} {w : World} {K : PySem.W.Frag} {mg : Str → Option Value} {base : Heap}
theorem sc_law : FnScope ["_law_script", "_law_turn"] ["_law_script"] (defScope (top 56)) := ⟨rfl, rfl, rfl, by decide +kernel, rfl, by decide +kernel, by decide +kernel⟩
def spLaw (K : PySem.W.Frag) : Sp := fun vs H Q _ => ∃ (a : Addr) (ns : List Int), vs = [.ref a] ∧ SqL K H a (ns.map V.int) ∧ ns.length ≤ 63 ∧ ∀ H', Q (.bl true) H'
def lwP (H : Hp) (D : Addr) (i : Nat) (H' : Hp) : Prop := Same H H' ∧ H' D = some (.lst ((List.replicate i true).map V.bl))
theorem ok_law (T : Tx mg) {f : Addr} {fd : FuncData} (F : FD K "law" (top 56) f fd) {f1 f2 : Addr} {fd1 fd2 : FuncData} (C1 : CalG P w K mg base CX0 11 "_law_right" ["_law_well_here"] spG f1 fd1)
    (C2 : Cal P w K mg base CX0 1 "_law_well" ["_law_script", "_law_turn"] (spWell K) f2 fd2) : Ga.FnG P w K mg base CX0 12 f fd ["_law_script"] (spLaw K) := by
  obtain ⟨g_law_right, k_law_right, b_law_right, F_law_right⟩ := C1
  obtain ⟨g_law_well, k_law_well, b_law_well, F_law_well⟩ := C2
  refine Ga.FnG.mk' F sc_law (fun vs H Q E h => ?_) (fun cdv A outer s' H vs Q E hG hr h => ?_)
  · obtain ⟨_, _, rfl, _⟩ := h
    rfl
  · obtain ⟨a, ns, rfl, ha, hn, k⟩ := h
    have nd := sc_law.nd
    refine ⟨_, (pss_one (ps_ret (pe_callB (cr_all rfl) (by rfl) T.b_all (by decide +kernel) (pa_cons (pe_lc (own := [("_law_turn", 1)]) rfl nd (pi_range1 rfl T.b_range (pa_cons (pe_callB (call_max2 rfl) (by rfl) T.b_max (by decide +kernel) (pa_cons pe_int (pa_cons (pe_callB (call_min2 rfl) (by rfl) T.b_min (by decide +kernel) (pa_cons (pe_callB call_len_seq (by rfl) T.b_len PySem.boot_len (pa_cons (pv 0) pa_nil)) (pa_cons pe_int pa_nil))) pa_nil))) pa_nil)) (blkOk_by (N := ["_law_script", "_law_turn"]) (sc := defScope (top 56)) (by decide +kernel)) (fun _ _ _ _ _ => (pg_name (i := 1) nd rfl (Or.inl rfl))) (fun _ _ _ _ _ => pts_nil) (fun _ _ _ _ _ => (Ga.pe_callG F_law_right hG (hr.mono (by omega)) rfl g_law_right k_law_right b_law_right .nil pass0 (pa_cons (pe_call F_law_well (hr.mono (by omega)) rfl g_law_well k_law_well b_law_well .nil pass0 (pa_cons (pv 0) (pa_cons (pv 1) pa_nil))) pa_nil)))) pa_nil)))), ?_⟩
    walk_at "rd"
    refine ⟨_, .inl ha, ?_⟩
    have en : ∃ n : Int, n = (if (if 3 < ((ns.map V.int).length : Int) then 3 else ((ns.map V.int).length : Int)) > 2 then (if 3 < ((ns.map V.int).length : Int) then 3 else ((ns.map V.int).length : Int)) else 2) ∧ 2 ≤ n ∧ n ≤ 3 := ⟨_, rfl, by split <;> omega, by split <;> split <;> omega⟩
    obtain ⟨n, e, n2, n3⟩ := en
    rw [← e]
    refine ⟨by omega, by omega, lc_r (lwP H) fun D hD => ⟨⟨same_new hD, upd_same⟩, ?_, ?_⟩⟩
    · rintro i H' hi ⟨hs, hL⟩
      unfold Lturn
      walk_at "rd"
      refine ⟨a, ns, _, rfl, hs.seq ha, hn, by omega, by omega, fun u H1 s1 u0 w1 => ⟨u, rfl, w1, fun H2 b2 w2 => ?_⟩⟩
      have s2 : Same H' H2 := fun b o e => b2 b o (ne_of_none e u0) (s1 b o e)
      refine ⟨_, s2 _ _ hL, ?_, fun b o e => ?_, ?_⟩
      · rw [List.length_map, List.length_replicate]
        refine Nat.lt_of_le_of_lt (show i ≤ 3 by omega) (by rw [sizeLine_eq]; decide)
      · rw [upd_ne (ne_of_none e hD)]
        exact s2 b o (hs b o e)
      · rw [upd_same, List.replicate_succ', List.map_append]; rfl
    · rintro H' ⟨hs, hL⟩
      refine ⟨D, _, rfl, SqL.of hL, ?_⟩
      rw [show (List.replicate n.toNat true).all id = true from by simp]
      exact k _
end
end K39

set_option Elab.async false
set_option linter.all false
set_option maxRecDepth 100000
set_option maxHeartbeats 0
namespace K39H
open PySem PySem.Spec PyProof.Rows L2 Rd Dt Dq Pk Ln En Sx Sy So Sr Lk TL K39
def d0 : He.DefD := ⟨("NotAStore", some "__init__"), "__init__", "NotAStore.__init__", defArgs (inClass (top 6) 0), defBody (inClass (top 6) 0), defScope (inClass (top 6) 0), [], []⟩
def d1 : He.DefD := ⟨("InvalidDeed", some "__init__"), "__init__", "InvalidDeed.__init__", defArgs (inClass (top 5) 0), defBody (inClass (top 5) 0), defScope (inClass (top 5) 0), [], []⟩
def d2 : He.DefD := ⟨("UnknownName", some "__init__"), "__init__", "UnknownName.__init__", defArgs (inClass (top 7) 0), defBody (inClass (top 7) 0), defScope (inClass (top 7) 0), [], []⟩
def d3 : He.DefD := ⟨("TooMany", some "__init__"), "__init__", "TooMany.__init__", defArgs (inClass (top 8) 0), defBody (inClass (top 8) 0), defScope (inClass (top 8) 0), [], []⟩
def d4 : He.DefD := ⟨("Failed", some "__init__"), "__init__", "Failed.__init__", defArgs (inClass (top 9) 0), defBody (inClass (top 9) 0), defScope (inClass (top 9) 0), [], []⟩
def d5 : He.DefD := ⟨("is_whole", none), "is_whole", "is_whole", defArgs (top 17), defBody (top 17), defScope (top 17), [], []⟩
def d6 : He.DefD := ⟨("is_between", none), "is_between", "is_between", defArgs (top 18), defBody (top 18), defScope (top 18), [], []⟩
def d7 : He.DefD := ⟨("is_place", none), "is_place", "is_place", defArgs (top 19), defBody (top 19), defScope (top 19), [], []⟩
def d8 : He.DefD := ⟨("is_letter", none), "is_letter", "is_letter", defArgs (top 20), defBody (top 20), defScope (top 20), [], []⟩
def d9 : He.DefD := ⟨("is_pair", none), "is_pair", "is_pair", defArgs (top 21), defBody (top 21), defScope (top 21), [], []⟩
def d10 : He.DefD := ⟨("are_name_pairs", none), "are_name_pairs", "are_name_pairs", defArgs (top 23), defBody (top 23), defScope (top 23), [], []⟩
def d11 : He.DefD := ⟨("check_cells", none), "check_cells", "check_cells", defArgs (top 24), defBody (top 24), defScope (top 24), [], []⟩
def d12 : He.DefD := ⟨("Store", some "__init__"), "__init__", "Store.__init__", defArgs (inClass (top 25) 0), defBody (inClass (top 25) 0), defScope (inClass (top 25) 0), [], []⟩
def d13 : He.DefD := ⟨("check_store", none), "check_store", "check_store", defArgs (top 26), defBody (top 26), defScope (top 26), [], []⟩
def d14 : He.DefD := ⟨("Heap", some "__init__"), "__init__", "Heap.__init__", defArgs (inClass (top 28) 0), defBody (inClass (top 28) 0), defScope (inClass (top 28) 0), [], []⟩
def d15 : He.DefD := ⟨("Heap", some "place_of"), "place_of", "Heap.place_of", defArgs (inClass (top 28) 1), defBody (inClass (top 28) 1), defScope (inClass (top 28) 1), [], []⟩
def d16 : He.DefD := ⟨("Heap", some "fresh_place"), "fresh_place", "Heap.fresh_place", defArgs (inClass (top 28) 2), defBody (inClass (top 28) 2), defScope (inClass (top 28) 2), [], []⟩
def d17 : He.DefD := ⟨("Heap", some "done"), "done", "Heap.done", defArgs (inClass (top 28) 3), defBody (inClass (top 28) 3), defScope (inClass (top 28) 3), [], []⟩
def d18 : He.DefD := ⟨("Heap", some "store"), "store", "Heap.store", defArgs (inClass (top 28) 6), defBody (inClass (top 28) 6), defScope (inClass (top 28) 6), [], []⟩
def d19 : He.DefD := ⟨("heap_of", none), "heap_of", "heap_of", defArgs (top 29), defBody (top 29), defScope (top 29), [], []⟩
def d20 : He.DefD := ⟨("is_goal", none), "is_goal", "is_goal", defArgs (top 31), defBody (top 31), defScope (top 31), [], []⟩
def d21 : He.DefD := ⟨("is_deed", none), "is_deed", "is_deed", defArgs (top 33), defBody (top 33), defScope (top 33), [], []⟩
def d22 : He.DefD := ⟨("check_run_cells", none), "check_run_cells", "check_run_cells", defArgs (top 36), defBody (top 36), defScope (top 36), [], []⟩
def d23 : He.DefD := ⟨("check_known", none), "check_known", "check_known", defArgs (top 37), defBody (top 37), defScope (top 37), [], []⟩
def d24 : He.DefD := ⟨("check_deed", none), "check_deed", "check_deed", defArgs (top 38), defBody (top 38), defScope (top 38), [], []⟩
def d25 : He.DefD := ⟨("done", none), "done", "done", defArgs (top 39), defBody (top 39), defScope (top 39), [], []⟩
def d26 : He.DefD := ⟨("_law_well", none), "_law_well", "_law_well", defArgs (top 41), defBody (top 41), defScope (top 41), [], []⟩
def d27 : He.DefD := ⟨("_law_take", none), "_law_take", "_law_take", defArgs (top 42), defBody (top 42), defScope (top 42), [], []⟩
def d28 : He.DefD := ⟨("_law_pick", none), "_law_pick", "_law_pick", defArgs (top 43), defBody (top 43), defScope (top 43), [], []⟩
def d29 : He.DefD := ⟨("_law_drawn", none), "_law_drawn", "_law_drawn", defArgs (top 44), defBody (top 44), defScope (top 44), [], []⟩
def d30 : He.DefD := ⟨("_law_store", none), "_law_store", "_law_store", defArgs (top 45), defBody (top 45), defScope (top 45), [], []⟩
def d31 : He.DefD := ⟨("_law_shown", none), "_law_shown", "_law_shown", defArgs (top 46), defBody (top 46), defScope (top 46), [], []⟩
def d32 : He.DefD := ⟨("_law_free", none), "_law_free", "_law_free", defArgs (top 47), defBody (top 47), defScope (top 47), [], []⟩
def d33 : He.DefD := ⟨("_law_act", none), "_law_act", "_law_act", defArgs (top 48), defBody (top 48), defScope (top 48), [], []⟩
def d34 : He.DefD := ⟨("_law_one_act", none), "_law_one_act", "_law_one_act", defArgs (top 49), defBody (top 49), defScope (top 49), [], []⟩
def d35 : He.DefD := ⟨("_law_odd", none), "_law_odd", "_law_odd", defArgs (top 50), defBody (top 50), defScope (top 50), [], []⟩
def d36 : He.DefD := ⟨("_law_great", none), "_law_great", "_law_great", defArgs (top 51), defBody (top 51), defScope (top 51), [], []⟩
def d37 : He.DefD := ⟨("_law_lacking", none), "_law_lacking", "_law_lacking", defArgs (top 52), defBody (top 52), defScope (top 52), [], []⟩
def d38 : He.DefD := ⟨("_law_told", none), "_law_told", "_law_told", defArgs (top 53), defBody (top 53), defScope (top 53), [], []⟩
def d39 : He.DefD := ⟨("_law_due", none), "_law_due", "_law_due", defArgs (top 54), defBody (top 54), defScope (top 54), [], []⟩
def d40 : He.DefD := ⟨("_law_right", none), "_law_right", "_law_right", defArgs (top 55), defBody (top 55), defScope (top 55), [], []⟩
def d41 : He.DefD := ⟨("law", none), "law", "law", defArgs (top 56), defBody (top 56), defScope (top 56), [], []⟩
def fn : List He.DefD := [d0, d1, d2, d3, d4, d5, d6, d7, d8, d9, d10, d11, d12, d13, d14, d15, d16, d17, d18, d19, d20, d21, d22, d23, d24, d25, d26, d27, d28, d29, d30, d31, d32, d33, d34, d35, d36, d37, d38, d39, d40, d41]
def fa : List He.Fa := [.glo "NotAStore", .glo "InvalidDeed", .glo "UnknownName", .glo "TooMany", .glo "Failed", .glo "is_whole", .glo "is_between", .glo "is_place", .glo "is_letter", .glo "is_pair", .glo "are_name_pairs", .glo "check_cells", .glo "Store", .glo "check_store", .glo "Heap", .glo "heap_of", .glo "is_goal", .glo "is_deed", .glo "check_run_cells", .glo "check_known", .glo "check_deed", .glo "done", .glo "_law_well", .glo "_law_take", .glo "_law_pick", .glo "_law_drawn", .glo "_law_store", .glo "_law_shown", .glo "_law_free", .glo "_law_act", .glo "_law_one_act", .glo "_law_odd", .glo "_law_great", .glo "_law_lacking", .glo "_law_told", .glo "_law_due", .glo "_law_right", .glo "law", .glo "ArrowError", .free "len", .free "int", .free "isinstance", .free "abs", .free "divmod", .free "range", .free "max", .free "min", .free "repr", .free "all", .free "list", .free "tuple", .free "str", .free "sum", .free "bool", .free "dict", .free "enumerate", .free "sorted", .free "set", .free "any", .int "END" (0), .int "MOST_PLACE" (999), .int "MOST_CELLS" (500), .int "MOST_NAMES" (4), .int "MOST_RUN_CELLS" (100), .str "LETTERS" abc, .cls "Store", .noat "Store" "names", .noat "Store" "cells", .noat "Store" "places", .noat "Store" "arrows", .noat "Store" "letters", .mkr "Store", .cls "Heap", .noat "Heap" "names", .noat "Heap" "cells", .noat "Heap" "used", .noat "Heap" "made", .mkr "Heap", .meth "Heap" "place_of", .meth "Heap" "fresh_place", .meth "Heap" "done", .meth "Heap" "store"]
def ex (K : PySem.W.Frag) : Bool := Sm.sysB K && (Lo.ownB K "Store" && (Exx.erB K "NotAStore" "given" && (Exx.erB K "InvalidDeed" "given" && (Exx.erB K "UnknownName" "given" && (Exx.erB K "TooMany" "given" && (Exx.erB K "Failed" "given" && ((nDat.all fun t => decide (PySem.W.kitOne K t (.ref (He.ga K "Store")) = some false)) && (decide (PySem.W.exmOne K (.ref (He.ga K "InvalidDeed")) (.ref (He.ga K "NotAStore")) = some false) && (decide (PySem.W.exmOne K (.ref (He.ga K "UnknownName")) (.ref (He.ga K "NotAStore")) = some false) && (decide (PySem.W.exmOne K (.ref (He.ga K "UnknownName")) (.ref (He.ga K "InvalidDeed")) = some false) && (decide (PySem.W.exmOne K (.ref (He.ga K "TooMany")) (.ref (He.ga K "NotAStore")) = some false) && (decide (PySem.W.exmOne K (.ref (He.ga K "TooMany")) (.ref (He.ga K "InvalidDeed")) = some false) && (decide (PySem.W.exmOne K (.ref (He.ga K "TooMany")) (.ref (He.ga K "UnknownName")) = some false) && (decide (PySem.W.exmOne K (.ref (He.ga K "Failed")) (.ref (He.ga K "NotAStore")) = some false) && (decide (PySem.W.exmOne K (.ref (He.ga K "Failed")) (.ref (He.ga K "InvalidDeed")) = some false) && (decide (PySem.W.exmOne K (.ref (He.ga K "Failed")) (.ref (He.ga K "UnknownName")) = some false) && (decide (PySem.W.exmOne K (.ref (He.ga K "Failed")) (.ref (He.ga K "TooMany")) = some false) && (decide (PySem.W.kitOne K (.ref (He.ga K "Failed")) (.ref (He.ga K "ArrowError")) = some true)))))))))))))))))))
def prs : List Prp.PrD := [⟨"Store", ⟨("Store", some "text"), "text", "Store.text", defArgs (inClass (top 25) 2), defBody (inClass (top 25) 2), defScope (inClass (top 25) 2), [], []⟩⟩]
abbrev R : PySem.W.OpenRow := PySem.W.OpenLaw.row PySem.Challenge.rw_arrowcells_k39_one_deed_on_a_store
abbrev hk : PySem.W.Hook := Prp.hookP 6 fa fn prs ex
def ob (s : PySem.W.SharedT) : Prp.AlP := Prp.obsP 6 fa fn prs ex (HandSHeadRun.getT s)
theorem ob_eq (s : PySem.W.SharedT) : ob s = hk.obs s.abs := Prp.obsP_eq (HandSHeadRun.getT_eq s)
abbrev nm : List PySem.Str := ("_wall" : PySem.Str) :: ("ArrowError" : PySem.Str) :: ("InvalidNames" : PySem.Str) :: ("InvalidPlace" : PySem.Str) :: ("InvalidDeed" : PySem.Str) :: ("NotAStore" : PySem.Str) :: ("UnknownName" : PySem.Str) :: ("TooMany" : PySem.Str) :: ("Failed" : PySem.Str) :: ("InvalidCells" : PySem.Str) :: ("LETTERS" : PySem.Str) :: ("END" : PySem.Str) :: ("MOST_PLACE" : PySem.Str) :: ("MOST_CELLS" : PySem.Str) :: ("MOST_NAMES" : PySem.Str) :: ("is_whole" : PySem.Str) :: ("is_between" : PySem.Str) :: ("is_place" : PySem.Str) :: ("is_letter" : PySem.Str) :: ("is_pair" : PySem.Str) :: ("are_name_pairs" : PySem.Str) :: ("check_cells" : PySem.Str) :: ("Store" : PySem.Str) :: ("check_store" : PySem.Str) :: ("Heap" : PySem.Str) :: ("heap_of" : PySem.Str) :: ("is_goal" : PySem.Str) :: ("is_deed" : PySem.Str) :: ("MOST_RUN_CELLS" : PySem.Str) :: ("check_run_cells" : PySem.Str) :: ("check_known" : PySem.Str) :: ("check_deed" : PySem.Str) :: ("done" : PySem.Str) :: ("_law_well" : PySem.Str) :: ("_law_take" : PySem.Str) :: ("_law_pick" : PySem.Str) :: ("_law_drawn" : PySem.Str) :: ("_law_store" : PySem.Str) :: ("_law_shown" : PySem.Str) :: ("_law_free" : PySem.Str) :: ("_law_act" : PySem.Str) :: ("_law_one_act" : PySem.Str) :: ("_law_odd" : PySem.Str) :: ("_law_great" : PySem.Str) :: ("_law_lacking" : PySem.Str) :: ("_law_told" : PySem.Str) :: ("_law_due" : PySem.Str) :: ("_law_right" : PySem.Str) :: []
theorem run (w : World) : HandSHeadRun.RunEq R (PySem.W.view R.prog [56]) hk ob 5000 nm w := by
  intro os
  kernel_rfl
theorem facts {P : Program} {w : World} {K : PySem.W.Frag} {h : Heap} {mg : Str → Option Value} {f : Addr} (X : K.In h) (G : h.Ns mainGlobals mg) (hfa : mg ("law" : Str) = some (.ref f)) (c : He.SaysD fa fn K) (xx : ex K = true) (pp : Prp.SaysP prs K) :
    ∃ fd : FuncData, (∀ (s : Shared) (v : Value), BindsTo s fd ⟨[v], []⟩ [("_law_script", v)]) ∧ ∀ base : Heap, K.In base → base.Ns mainGlobals mg → Ga.FnG P w K mg base CX0 12 f fd ["_law_script"] (spLaw K) := by
  obtain ⟨fd_NotAStore___init__, F_NotAStore___init__⟩ := c.def_ 0 (d := d0) rfl
  obtain ⟨fd_InvalidDeed___init__, F_InvalidDeed___init__⟩ := c.def_ 1 (d := d1) rfl
  obtain ⟨fd_UnknownName___init__, F_UnknownName___init__⟩ := c.def_ 2 (d := d2) rfl
  obtain ⟨fd_TooMany___init__, F_TooMany___init__⟩ := c.def_ 3 (d := d3) rfl
  obtain ⟨fd_Failed___init__, F_Failed___init__⟩ := c.def_ 4 (d := d4) rfl
  obtain ⟨fd_is_whole, F_is_whole⟩ := c.def_ 5 (d := d5) rfl
  obtain ⟨fd_is_between, F_is_between⟩ := c.def_ 6 (d := d6) rfl
  obtain ⟨fd_is_place, F_is_place⟩ := c.def_ 7 (d := d7) rfl
  obtain ⟨fd_is_letter, F_is_letter⟩ := c.def_ 8 (d := d8) rfl
  obtain ⟨fd_is_pair, F_is_pair⟩ := c.def_ 9 (d := d9) rfl
  obtain ⟨fd_are_name_pairs, F_are_name_pairs⟩ := c.def_ 10 (d := d10) rfl
  obtain ⟨fd_check_cells, F_check_cells⟩ := c.def_ 11 (d := d11) rfl
  obtain ⟨fd_Store___init__, F_Store___init__⟩ := c.def_ 12 (d := d12) rfl
  obtain ⟨fd_check_store, F_check_store⟩ := c.def_ 13 (d := d13) rfl
  obtain ⟨fd_Heap___init__, F_Heap___init__⟩ := c.def_ 14 (d := d14) rfl
  obtain ⟨fd_Heap_place_of, F_Heap_place_of⟩ := c.def_ 15 (d := d15) rfl
  obtain ⟨fd_Heap_fresh_place, F_Heap_fresh_place⟩ := c.def_ 16 (d := d16) rfl
  obtain ⟨fd_Heap_done, F_Heap_done⟩ := c.def_ 17 (d := d17) rfl
  obtain ⟨fd_Heap_store, F_Heap_store⟩ := c.def_ 18 (d := d18) rfl
  obtain ⟨fd_heap_of, F_heap_of⟩ := c.def_ 19 (d := d19) rfl
  obtain ⟨fd_is_goal, F_is_goal⟩ := c.def_ 20 (d := d20) rfl
  obtain ⟨fd_is_deed, F_is_deed⟩ := c.def_ 21 (d := d21) rfl
  obtain ⟨fd_check_run_cells, F_check_run_cells⟩ := c.def_ 22 (d := d22) rfl
  obtain ⟨fd_check_known, F_check_known⟩ := c.def_ 23 (d := d23) rfl
  obtain ⟨fd_check_deed, F_check_deed⟩ := c.def_ 24 (d := d24) rfl
  obtain ⟨fd_done, F_done⟩ := c.def_ 25 (d := d25) rfl
  obtain ⟨fd__law_well, F__law_well⟩ := c.def_ 26 (d := d26) rfl
  obtain ⟨fd__law_take, F__law_take⟩ := c.def_ 27 (d := d27) rfl
  obtain ⟨fd__law_pick, F__law_pick⟩ := c.def_ 28 (d := d28) rfl
  obtain ⟨fd__law_drawn, F__law_drawn⟩ := c.def_ 29 (d := d29) rfl
  obtain ⟨fd__law_store, F__law_store⟩ := c.def_ 30 (d := d30) rfl
  obtain ⟨fd__law_shown, F__law_shown⟩ := c.def_ 31 (d := d31) rfl
  obtain ⟨fd__law_free, F__law_free⟩ := c.def_ 32 (d := d32) rfl
  obtain ⟨fd__law_act, F__law_act⟩ := c.def_ 33 (d := d33) rfl
  obtain ⟨fd__law_one_act, F__law_one_act⟩ := c.def_ 34 (d := d34) rfl
  obtain ⟨fd__law_odd, F__law_odd⟩ := c.def_ 35 (d := d35) rfl
  obtain ⟨fd__law_great, F__law_great⟩ := c.def_ 36 (d := d36) rfl
  obtain ⟨fd__law_lacking, F__law_lacking⟩ := c.def_ 37 (d := d37) rfl
  obtain ⟨fd__law_told, F__law_told⟩ := c.def_ 38 (d := d38) rfl
  obtain ⟨fd__law_due, F__law_due⟩ := c.def_ 39 (d := d39) rfl
  obtain ⟨fd__law_right, F__law_right⟩ := c.def_ 40 (d := d40) rfl
  obtain ⟨fd_law, F_law⟩ := c.def_ 41 (d := d41) rfl
  obtain ⟨P_Store_text, fd_Store_text, F_Store_text⟩ := pp.at 0 (p := prs[0]) rfl
  have g_NotAStore := He.glo_ok X G (c.fact 0 (f := .glo "NotAStore") rfl)
  have g_InvalidDeed := He.glo_ok X G (c.fact 1 (f := .glo "InvalidDeed") rfl)
  have g_UnknownName := He.glo_ok X G (c.fact 2 (f := .glo "UnknownName") rfl)
  have g_TooMany := He.glo_ok X G (c.fact 3 (f := .glo "TooMany") rfl)
  have g_Failed := He.glo_ok X G (c.fact 4 (f := .glo "Failed") rfl)
  have g_is_whole := He.glo_ok X G (c.fact 5 (f := .glo "is_whole") rfl)
  have g_is_between := He.glo_ok X G (c.fact 6 (f := .glo "is_between") rfl)
  have g_is_place := He.glo_ok X G (c.fact 7 (f := .glo "is_place") rfl)
  have g_is_letter := He.glo_ok X G (c.fact 8 (f := .glo "is_letter") rfl)
  have g_is_pair := He.glo_ok X G (c.fact 9 (f := .glo "is_pair") rfl)
  have g_are_name_pairs := He.glo_ok X G (c.fact 10 (f := .glo "are_name_pairs") rfl)
  have g_check_cells := He.glo_ok X G (c.fact 11 (f := .glo "check_cells") rfl)
  have g_Store := He.glo_ok X G (c.fact 12 (f := .glo "Store") rfl)
  have g_check_store := He.glo_ok X G (c.fact 13 (f := .glo "check_store") rfl)
  have g_Heap := He.glo_ok X G (c.fact 14 (f := .glo "Heap") rfl)
  have g_heap_of := He.glo_ok X G (c.fact 15 (f := .glo "heap_of") rfl)
  have g_is_goal := He.glo_ok X G (c.fact 16 (f := .glo "is_goal") rfl)
  have g_is_deed := He.glo_ok X G (c.fact 17 (f := .glo "is_deed") rfl)
  have g_check_run_cells := He.glo_ok X G (c.fact 18 (f := .glo "check_run_cells") rfl)
  have g_check_known := He.glo_ok X G (c.fact 19 (f := .glo "check_known") rfl)
  have g_check_deed := He.glo_ok X G (c.fact 20 (f := .glo "check_deed") rfl)
  have g_done := He.glo_ok X G (c.fact 21 (f := .glo "done") rfl)
  have g__law_well := He.glo_ok X G (c.fact 22 (f := .glo "_law_well") rfl)
  have g__law_take := He.glo_ok X G (c.fact 23 (f := .glo "_law_take") rfl)
  have g__law_pick := He.glo_ok X G (c.fact 24 (f := .glo "_law_pick") rfl)
  have g__law_drawn := He.glo_ok X G (c.fact 25 (f := .glo "_law_drawn") rfl)
  have g__law_store := He.glo_ok X G (c.fact 26 (f := .glo "_law_store") rfl)
  have g__law_shown := He.glo_ok X G (c.fact 27 (f := .glo "_law_shown") rfl)
  have g__law_free := He.glo_ok X G (c.fact 28 (f := .glo "_law_free") rfl)
  have g__law_act := He.glo_ok X G (c.fact 29 (f := .glo "_law_act") rfl)
  have g__law_one_act := He.glo_ok X G (c.fact 30 (f := .glo "_law_one_act") rfl)
  have g__law_odd := He.glo_ok X G (c.fact 31 (f := .glo "_law_odd") rfl)
  have g__law_great := He.glo_ok X G (c.fact 32 (f := .glo "_law_great") rfl)
  have g__law_lacking := He.glo_ok X G (c.fact 33 (f := .glo "_law_lacking") rfl)
  have g__law_told := He.glo_ok X G (c.fact 34 (f := .glo "_law_told") rfl)
  have g__law_due := He.glo_ok X G (c.fact 35 (f := .glo "_law_due") rfl)
  have g__law_right := He.glo_ok X G (c.fact 36 (f := .glo "_law_right") rfl)
  have g_law := He.glo_ok X G (c.fact 37 (f := .glo "law") rfl)
  have g_ArrowError := He.glo_ok X G (c.fact 38 (f := .glo "ArrowError") rfl)
  have b_len := He.free_ok X G (c.fact 39 (f := .free "len") rfl)
  have b_int := He.free_ok X G (c.fact 40 (f := .free "int") rfl)
  have b_isinstance := He.free_ok X G (c.fact 41 (f := .free "isinstance") rfl)
  have b_abs := He.free_ok X G (c.fact 42 (f := .free "abs") rfl)
  have b_divmod := He.free_ok X G (c.fact 43 (f := .free "divmod") rfl)
  have b_range := He.free_ok X G (c.fact 44 (f := .free "range") rfl)
  have b_max := He.free_ok X G (c.fact 45 (f := .free "max") rfl)
  have b_min := He.free_ok X G (c.fact 46 (f := .free "min") rfl)
  have b_repr := He.free_ok X G (c.fact 47 (f := .free "repr") rfl)
  have b_all := He.free_ok X G (c.fact 48 (f := .free "all") rfl)
  have b_list := He.free_ok X G (c.fact 49 (f := .free "list") rfl)
  have b_tuple := He.free_ok X G (c.fact 50 (f := .free "tuple") rfl)
  have b_str := He.free_ok X G (c.fact 51 (f := .free "str") rfl)
  have b_sum := He.free_ok X G (c.fact 52 (f := .free "sum") rfl)
  have b_bool := He.free_ok X G (c.fact 53 (f := .free "bool") rfl)
  have b_dict := He.free_ok X G (c.fact 54 (f := .free "dict") rfl)
  have b_enumerate := He.free_ok X G (c.fact 55 (f := .free "enumerate") rfl)
  have b_sorted := He.free_ok X G (c.fact 56 (f := .free "sorted") rfl)
  have b_set := He.free_ok X G (c.fact 57 (f := .free "set") rfl)
  have b_any := He.free_ok X G (c.fact 58 (f := .free "any") rfl)
  have i_END := He.int_ok X G (c.fact 59 (f := .int "END" (0)) rfl)
  have i_MOST_PLACE := He.int_ok X G (c.fact 60 (f := .int "MOST_PLACE" (999)) rfl)
  have i_MOST_CELLS := He.int_ok X G (c.fact 61 (f := .int "MOST_CELLS" (500)) rfl)
  have i_MOST_NAMES := He.int_ok X G (c.fact 62 (f := .int "MOST_NAMES" (4)) rfl)
  have i_MOST_RUN_CELLS := He.int_ok X G (c.fact 63 (f := .int "MOST_RUN_CELLS" (100)) rfl)
  have i_LETTERS := He.str_ok X G (c.fact 64 (f := .str "LETTERS" abc) rfl)
  have z_cls := He.cls_ok (c.fact 65 (f := .cls "Store") rfl)
  have z_n := He.noat_ok (c.fact 66 (f := .noat "Store" "names") rfl)
  have z_c := He.noat_ok (c.fact 67 (f := .noat "Store" "cells") rfl)
  have z_p := He.noat_ok (c.fact 68 (f := .noat "Store" "places") rfl)
  have z_a := He.noat_ok (c.fact 69 (f := .noat "Store" "arrows") rfl)
  have z_l := He.noat_ok (c.fact 70 (f := .noat "Store" "letters") rfl)
  have z_mk := He.mkr_ok (c.fact 71 (f := .mkr "Store") rfl)
  have h_cls := He.cls_ok (c.fact 72 (f := .cls "Heap") rfl)
  have h_n := He.noat_ok (c.fact 73 (f := .noat "Heap" "names") rfl)
  have h_c := He.noat_ok (c.fact 74 (f := .noat "Heap" "cells") rfl)
  have h_u := He.noat_ok (c.fact 75 (f := .noat "Heap" "used") rfl)
  have h_m := He.noat_ok (c.fact 76 (f := .noat "Heap" "made") rfl)
  have h_mk := He.mkr_ok (c.fact 77 (f := .mkr "Heap") rfl)
  have h_pof := He.meth_ok (c.fact 78 (f := .meth "Heap" "place_of") rfl)
  have h_fp := He.meth_ok (c.fact 79 (f := .meth "Heap" "fresh_place") rfl)
  have h_don := He.meth_ok (c.fact 80 (f := .meth "Heap" "done") rfl)
  have h_sto := He.meth_ok (c.fact 81 (f := .meth "Heap" "store") rfl)
  have k_NotAStore___init__ : Binds K fd_NotAStore___init__ ["self", "given"] [] := F_NotAStore___init__.bindsN fun _ _ _ _ _ _ us hl => match us, hl with | [_, _], _ => rfl
  have k_InvalidDeed___init__ : Binds K fd_InvalidDeed___init__ ["self", "given"] [] := F_InvalidDeed___init__.bindsN fun _ _ _ _ _ _ us hl => match us, hl with | [_, _], _ => rfl
  have k_UnknownName___init__ : Binds K fd_UnknownName___init__ ["self", "given"] [] := F_UnknownName___init__.bindsN fun _ _ _ _ _ _ us hl => match us, hl with | [_, _], _ => rfl
  have k_TooMany___init__ : Binds K fd_TooMany___init__ ["self", "given"] [] := F_TooMany___init__.bindsN fun _ _ _ _ _ _ us hl => match us, hl with | [_, _], _ => rfl
  have k_Failed___init__ : Binds K fd_Failed___init__ ["self", "given"] [] := F_Failed___init__.bindsN fun _ _ _ _ _ _ us hl => match us, hl with | [_, _], _ => rfl
  have k_is_whole : Binds K fd_is_whole ["value"] [] := F_is_whole.bindsN fun _ _ _ _ _ _ us hl => match us, hl with | [_], _ => rfl
  have k_is_between : Binds K fd_is_between ["value", "low", "high"] [] := F_is_between.bindsN fun _ _ _ _ _ _ us hl => match us, hl with | [_, _, _], _ => rfl
  have k_is_place : Binds K fd_is_place ["value"] [] := F_is_place.bindsN fun _ _ _ _ _ _ us hl => match us, hl with | [_], _ => rfl
  have k_is_letter : Binds K fd_is_letter ["value"] [] := F_is_letter.bindsN fun _ _ _ _ _ _ us hl => match us, hl with | [_], _ => rfl
  have k_is_pair : Binds K fd_is_pair ["value"] [] := F_is_pair.bindsN fun _ _ _ _ _ _ us hl => match us, hl with | [_], _ => rfl
  have k_are_name_pairs : Binds K fd_are_name_pairs ["value"] [] := F_are_name_pairs.bindsN fun _ _ _ _ _ _ us hl => match us, hl with | [_], _ => rfl
  have k_check_cells : Binds K fd_check_cells ["value"] [] := F_check_cells.bindsN fun _ _ _ _ _ _ us hl => match us, hl with | [_], _ => rfl
  have k_Store___init__ : Binds K fd_Store___init__ ["self", "names", "cells"] [] := F_Store___init__.bindsN fun _ _ _ _ _ _ us hl => match us, hl with | [_, _, _], _ => rfl
  have k_check_store : Binds K fd_check_store ["value"] [] := F_check_store.bindsN fun _ _ _ _ _ _ us hl => match us, hl with | [_], _ => rfl
  have k_Heap___init__ : Binds K fd_Heap___init__ ["self", "names", "cells"] [] := F_Heap___init__.bindsN fun _ _ _ _ _ _ us hl => match us, hl with | [_, _, _], _ => rfl
  have k_Heap_place_of : Binds K fd_Heap_place_of ["self", "word"] [] := F_Heap_place_of.bindsN fun _ _ _ _ _ _ us hl => match us, hl with | [_, _], _ => rfl
  have k_Heap_fresh_place : Binds K fd_Heap_fresh_place ["self"] [] := F_Heap_fresh_place.bindsN fun _ _ _ _ _ _ us hl => match us, hl with | [_], _ => rfl
  have k_Heap_done : Binds K fd_Heap_done ["self", "deed"] [] := F_Heap_done.bindsN fun _ _ _ _ _ _ us hl => match us, hl with | [_, _], _ => rfl
  have k_Heap_store : Binds K fd_Heap_store ["self", "letters"] [] := F_Heap_store.bindsN fun _ _ _ _ _ _ us hl => match us, hl with | [_, _], _ => rfl
  have k_heap_of : Binds K fd_heap_of ["store", "helpers"] [] := F_heap_of.bindsN fun _ _ _ _ _ _ us hl => match us, hl with | [_, _], _ => rfl
  have k_is_goal : Binds K fd_is_goal ["value"] [] := F_is_goal.bindsN fun _ _ _ _ _ _ us hl => match us, hl with | [_], _ => rfl
  have k_is_deed : Binds K fd_is_deed ["value"] [] := F_is_deed.bindsN fun _ _ _ _ _ _ us hl => match us, hl with | [_], _ => rfl
  have k_check_run_cells : Binds K fd_check_run_cells ["store"] [] := F_check_run_cells.bindsN fun _ _ _ _ _ _ us hl => match us, hl with | [_], _ => rfl
  have k_check_known : Binds K fd_check_known ["letters", "known"] [] := F_check_known.bindsN fun _ _ _ _ _ _ us hl => match us, hl with | [_, _], _ => rfl
  have k_check_deed : Binds K fd_check_deed ["deed", "known"] [] := F_check_deed.bindsN fun _ _ _ _ _ _ us hl => match us, hl with | [_, _], _ => rfl
  have k_done : Binds K fd_done ["store", "deed"] [] := F_done.bindsN fun _ _ _ _ _ _ us hl => match us, hl with | [_, _], _ => rfl
  have k__law_well : Binds K fd__law_well ["_law_script", "_law_turn"] [] := F__law_well.bindsN fun _ _ _ _ _ _ us hl => match us, hl with | [_, _], _ => rfl
  have k__law_take : Binds K fd__law_take ["_law_well_here", "_law_limit"] [] := F__law_take.bindsN fun _ _ _ _ _ _ us hl => match us, hl with | [_, _], _ => rfl
  have k__law_pick : Binds K fd__law_pick ["_law_well_here", "_law_some"] [] := F__law_pick.bindsN fun _ _ _ _ _ _ us hl => match us, hl with | [_, _], _ => rfl
  have k__law_drawn : Binds K fd__law_drawn ["_law_well_here", "_law_signs", "_law_limit"] [] := F__law_drawn.bindsN fun _ _ _ _ _ _ us hl => match us, hl with | [_, _, _], _ => rfl
  have k__law_store : Binds K fd__law_store ["_law_mine"] [] := F__law_store.bindsN fun _ _ _ _ _ _ us hl => match us, hl with | [_], _ => rfl
  have k__law_shown : Binds K fd__law_shown ["_law_mine"] [] := F__law_shown.bindsN fun _ _ _ _ _ _ us hl => match us, hl with | [_], _ => rfl
  have k__law_free : Binds K fd__law_free ["_law_homes", "_law_links", "_law_gone"] [] := F__law_free.bindsN fun _ _ _ _ _ _ us hl => match us, hl with | [_, _, _], _ => rfl
  have k__law_act : Binds K fd__law_act ["_law_homes", "_law_links", "_law_gone", "_law_act_here"] [] := F__law_act.bindsN fun _ _ _ _ _ _ us hl => match us, hl with | [_, _, _, _], _ => rfl
  have k__law_one_act : Binds K fd__law_one_act ["_law_well_here", "_law_signs"] [] := F__law_one_act.bindsN fun _ _ _ _ _ _ us hl => match us, hl with | [_, _], _ => rfl
  have k__law_odd : Binds K fd__law_odd ["_law_well_here"] [] := F__law_odd.bindsN fun _ _ _ _ _ _ us hl => match us, hl with | [_], _ => rfl
  have k__law_great : Binds K fd__law_great ["_law_well_here", "_law_signs"] [] := F__law_great.bindsN fun _ _ _ _ _ _ us hl => match us, hl with | [_, _], _ => rfl
  have k__law_lacking : Binds K fd__law_lacking ["_law_homes", "_law_some"] [] := F__law_lacking.bindsN fun _ _ _ _ _ _ us hl => match us, hl with | [_, _], _ => rfl
  have k__law_told : Binds K fd__law_told ["_law_first", "_law_second", "_law_is_named"] [] := F__law_told.bindsN fun _ _ _ _ _ _ us hl => match us, hl with | [_, _, _], _ => rfl
  have k__law_due : Binds K fd__law_due ["_law_mine", "_law_act_here"] [] := F__law_due.bindsN fun _ _ _ _ _ _ us hl => match us, hl with | [_, _], _ => rfl
  have k__law_right : Binds K fd__law_right ["_law_well_here"] [] := F__law_right.bindsN fun _ _ _ _ _ _ us hl => match us, hl with | [_], _ => rfl
  have k_law : Binds K fd_law ["_law_script"] [] := F_law.bindsN fun _ _ _ _ _ _ us hl => match us, hl with | [_], _ => rfl
  have k_Store_text : Binds K fd_Store_text ["self"] [] := F_Store_text.bindsN fun _ _ _ _ _ _ us hl => match us, hl with | [_], _ => rfl
  have e_law := hfa.symm.trans g_law
  cases e_law
  have bA := FunD.bindsA (ps := ["_law_script"]) F_law fun _ _ _ _ _ _ us hl => match us, hl with | [_], _ => rfl
  simp only [ex, Bool.and_eq_true, decide_eq_true_eq] at xx
  obtain ⟨x1, x2, x_n, x_d, x_u, x_m, x_f, xN, m0, m1, m2, m3, m4, m5, m6, m7, m8, m9, ma⟩ := xx
  have T : Tx mg := ⟨b_len, b_int, b_isinstance, b_abs, b_divmod, b_range, b_max, b_min, b_repr, b_all, b_list, b_tuple, b_str, b_sum, i_LETTERS⟩
  have TS : K39S.Tx mg := ⟨b_len, b_int, b_isinstance, b_abs, b_divmod, b_range, b_max, b_min, b_repr, b_all, b_list, b_tuple, b_str, b_bool, b_dict, b_enumerate, b_sorted, b_sum, b_set, i_LETTERS, i_END, i_MOST_PLACE, i_MOST_CELLS, i_MOST_NAMES⟩
  have TH : Th mg := ⟨TS, b_all, b_sorted, b_isinstance, b_repr, b_list, b_tuple, b_str, b_len, b_range, b_int, b_dict, i_END, i_MOST_RUN_CELLS⟩
  have S := Sm.sysB_ok x1
  obtain ⟨ne1, ne2, ne3, ne4, ne5, ne6, ne7⟩ := Exx.erB_ok x_n
  have Rn : ErS K mg (He.ga K "NotAStore") (He.ma K (He.ga K "NotAStore") "__init__") fd_NotAStore___init__ := ⟨g_NotAStore, ne1, ne2, ne3, ne4, by decide, by decide, ⟨_, _, _, _, _, _, _, F_NotAStore___init__, ⟨rfl, rfl, rfl, by decide +kernel, rfl, by decide +kernel, by decide +kernel⟩⟩, k_NotAStore___init__⟩
  obtain ⟨de1, de2, de3, de4, de5, de6, de7⟩ := Exx.erB_ok x_d
  have Rd : ErD K mg (He.ga K "InvalidDeed") (He.ma K (He.ga K "InvalidDeed") "__init__") fd_InvalidDeed___init__ := ⟨g_InvalidDeed, de1, de2, de3, de4, by decide, by decide, ⟨_, _, _, _, _, _, _, F_InvalidDeed___init__, ⟨rfl, rfl, rfl, by decide +kernel, rfl, by decide +kernel, by decide +kernel⟩⟩, k_InvalidDeed___init__⟩
  obtain ⟨ue1, ue2, ue3, ue4, ue5, ue6, ue7⟩ := Exx.erB_ok x_u
  have Ru : ErU K mg (He.ga K "UnknownName") (He.ma K (He.ga K "UnknownName") "__init__") fd_UnknownName___init__ := ⟨g_UnknownName, ue1, ue2, ue3, ue4, by decide, by decide, ⟨_, _, _, _, _, _, _, F_UnknownName___init__, ⟨rfl, rfl, rfl, by decide +kernel, rfl, by decide +kernel, by decide +kernel⟩⟩, k_UnknownName___init__⟩
  obtain ⟨me1, me2, me3, me4, me5, me6, me7⟩ := Exx.erB_ok x_m
  have Rm : ErM K mg (He.ga K "TooMany") (He.ma K (He.ga K "TooMany") "__init__") fd_TooMany___init__ := ⟨g_TooMany, me1, me2, me3, me4, by decide, by decide, ⟨_, _, _, _, _, _, _, F_TooMany___init__, ⟨rfl, rfl, rfl, by decide +kernel, rfl, by decide +kernel, by decide +kernel⟩⟩, k_TooMany___init__⟩
  obtain ⟨fe1, fe2, fe3, fe4, fe5, fe6, fe7⟩ := Exx.erB_ok x_f
  have Rf : ErF K mg (He.ga K "Failed") (He.ma K (He.ga K "Failed") "__init__") fd_Failed___init__ := ⟨g_Failed, fe1, fe2, fe3, fe4, by decide, by decide, ⟨_, _, _, _, _, _, _, F_Failed___init__, ⟨rfl, rfl, rfl, by decide +kernel, rfl, by decide +kernel, by decide +kernel⟩⟩, k_Failed___init__⟩
  have EM : Exm K (He.ga K "NotAStore") (He.ga K "InvalidDeed") (He.ga K "UnknownName") (He.ga K "TooMany") (He.ga K "Failed") (He.ga K "ArrowError") := ⟨ne7, m0, de7, m1, m2, ue7, m3, m4, m5, me7, m6, m7, m8, m9, fe7, ma⟩
  have NS : NoS K (He.ga K "Store") := fun t ht => of_decide_eq_true (List.all_eq_true.mp xN t ht)
  have W : K39S.StB K (He.ga K "Store") := ⟨z_cls, z_n, z_c, z_p, z_a, z_l⟩
  have L : K39S.StM K mg (He.ga K "Store") (He.ma K (He.ga K "Store") "__init__") := ⟨Lo.ownB_ok x2 z_cls, z_mk, g_Store⟩
  have HB : K39S.HpB K (He.ga K "Heap") := ⟨h_cls, h_n, h_c, h_u, h_m⟩
  have HL : HpK K mg (He.ga K "Heap") (He.ma K (He.ga K "Heap") "__init__") := ⟨h_mk, g_Heap⟩
  have C_is_letter := fun (base : Heap) => (⟨g_is_letter, F_is_letter.kp, k_is_letter, ok_letter T F_is_letter⟩ : Cal P w K mg base CX0 1 "is_letter" _ (spData isLetter K) _ _)
  have C_is_goal := fun (base : Heap) => (⟨g_is_goal, F_is_goal.kp, k_is_goal, ok_goal T F_is_goal (C_is_letter base)⟩ : Cal P w K mg base CX0 2 "is_goal" _ (spData isGoal K) _ _)
  have C_is_deed := fun (base : Heap) => (⟨g_is_deed, F_is_deed.kp, k_is_deed, ok_deed T F_is_deed (C_is_letter base) (C_is_goal base)⟩ : Cal P w K mg base CX0 3 "is_deed" _ (spData isDeed K) _ _)
  have C_is_whole := fun (base : Heap) => (⟨g_is_whole, F_is_whole.kp, k_is_whole, K39S.ok_whole TS F_is_whole⟩ : Cal P w K mg base CX0 1 "is_whole" _ K39S.spWhole _ _)
  have C_is_between := fun (base : Heap) => (⟨g_is_between, F_is_between.kp, k_is_between, K39S.ok_between TS F_is_between (C_is_whole base)⟩ : Cal P w K mg base CX0 2 "is_between" _ K39S.spBetween _ _)
  have C_is_place := fun (base : Heap) => (⟨g_is_place, F_is_place.kp, k_is_place, K39S.ok_place TS F_is_place (C_is_between base)⟩ : Cal P w K mg base CX0 3 "is_place" _ K39S.spPlace _ _)
  have C_sletter := fun (base : Heap) => (⟨g_is_letter, F_is_letter.kp, k_is_letter, K39S.ok_letter TS F_is_letter⟩ : Cal P w K mg base CX0 1 "is_letter" _ K39S.spLetter _ _)
  have C_is_pair := fun (base : Heap) => (⟨g_is_pair, F_is_pair.kp, k_is_pair, K39S.ok_pair TS F_is_pair⟩ : Cal P w K mg base CX0 1 "is_pair" _ (K39S.spPair K) _ _)
  have C_are_name_pairs := fun (base : Heap) => (⟨g_are_name_pairs, F_are_name_pairs.kp, k_are_name_pairs, K39S.ok_nm TS F_are_name_pairs (C_is_pair base) (C_sletter base) (C_is_place base)⟩ : Cal P w K mg base CX0 4 "are_name_pairs" _ (K39S.spNames K) _ _)
  have C_check_cells := fun (base : Heap) => (⟨g_check_cells, F_check_cells.kp, k_check_cells, K39S.ok_cl TS F_check_cells (C_is_pair base) (C_is_place base)⟩ : Cal P w K mg base CX0 4 "check_cells" _ (K39S.spCells K) _ _)
  have FI := fun (base : Heap) => (K39S.ok_in TS W F_Store___init__ (C_are_name_pairs base) (C_check_cells base) : FnOk P w K mg base CX0 5 _ _ ["self", "names", "cells"] (K39S.spInit K (He.ga K "Store")))
  have PT := fun (base : Heap) => (⟨P_Store_text, k_Store_text, K39S.ok_tx TS W F_Store_text⟩ : Prp.PrC P w K mg base 1 (He.ga K "Store") "text" (K39S.spText K (He.ga K "Store")) _ _ _)
  have FH := fun (base : Heap) => (K39S.ok_hin TS HB F_Heap___init__ : FnOk P w K mg base CX0 1 _ _ ["self", "names", "cells"] (K39S.spHI K (He.ga K "Heap")))
  have M1 := fun (base : Heap) => (⟨⟨h_pof, ok_po TH HB F_Heap_place_of, k_Heap_place_of⟩, ⟨h_fp, ok_fp TH HB F_Heap_fresh_place, k_Heap_fresh_place⟩⟩ : HpM P w K mg base (He.ga K "Heap") _ _ _ _)
  have M3 := fun (base : Heap) => (⟨h_cls, ⟨h_don, ok_dn TH HB (M1 base) F_Heap_done, k_Heap_done⟩, ⟨h_sto, ok_sr TH HB L F_Heap_store (FI base) k_Store___init__, k_Heap_store⟩⟩ : HpH P w K mg base (He.ga K "Heap") (He.ga K "Store") _ _ _ _)
  have C_check_store := fun (base : Heap) => (⟨g_check_store, F_check_store.kp, k_check_store, ok_chk TH NS L Rn F_check_store⟩ : Cal P w K mg base (L2.CX P w) 3 "check_store" _ (spChkX K (He.ga K "Store") (He.ga K "NotAStore")) _ _)
  have C_check_known := fun (base : Heap) => (⟨g_check_known, F_check_known.kp, k_check_known, ok_ck TH Ru F_check_known⟩ : Cal P w K mg base (L2.CX P w) 3 "check_known" _ (spCK (He.ga K "UnknownName")) _ _)
  have C_check_deed := fun (base : Heap) => (⟨g_check_deed, F_check_deed.kp, k_check_deed, ok_cd TH Rd F_check_deed (C_is_deed base) (C_check_known base)⟩ : Cal P w K mg base (L2.CX P w) 4 "check_deed" _ (spCD K (He.ga K "InvalidDeed") (He.ga K "UnknownName")) _ _)
  have C_check_run_cells := fun (base : Heap) => (⟨g_check_run_cells, F_check_run_cells.kp, k_check_run_cells, ok_cr TH W Rm F_check_run_cells⟩ : Cal P w K mg base (L2.CX P w) 3 "check_run_cells" _ (spCR K (He.ga K "Store") (He.ga K "TooMany")) _ _)
  have C_heap_of := fun (base : Heap) => (⟨g_heap_of, F_heap_of.kp, k_heap_of, ok_hf TH W HL (FH base) k_Heap___init__ F_heap_of⟩ : Cal P w K mg base CX0 3 "heap_of" _ (spHf K (He.ga K "Store") (He.ga K "Heap")) _ _)
  have C_done := fun (base : Heap) => (⟨g_done, F_done.kp, k_done, ok_done TH W HB (M3 base) Rf F_done (C_check_store base) (C_check_deed base) (C_check_run_cells base) (C_heap_of base)⟩ : Cal P w K mg base (L2.CX P w) 8 "done" _ (spDone K (He.ga K "Store") (He.ga K "NotAStore") (He.ga K "InvalidDeed") (He.ga K "UnknownName") (He.ga K "TooMany") (He.ga K "Failed")) _ _)
  have C__law_take := fun (base : Heap) => (⟨g__law_take, F__law_take.kp, k__law_take, ok_take T F__law_take⟩ : Cal P w K mg base CX0 1 "_law_take" _ spTake _ _)
  have C__law_pick := fun (base : Heap) => (⟨g__law_pick, F__law_pick.kp, k__law_pick, ok_pick T F__law_pick (C__law_take base)⟩ : Cal P w K mg base CX0 2 "_law_pick" _ spPick _ _)
  have C__law_well := fun (base : Heap) => (⟨g__law_well, F__law_well.kp, k__law_well, ok_well T F__law_well⟩ : Cal P w K mg base CX0 1 "_law_well" _ (spWell K) _ _)
  have C__law_drawn := fun (base : Heap) => (⟨g__law_drawn, F__law_drawn.kp, k__law_drawn, ok_drawn TH F__law_drawn (C__law_take base) (C__law_pick base)⟩ : Cal P w K mg base CX0 3 "_law_drawn" _ spDrawn _ _)
  have C__law_great := fun (base : Heap) => (⟨g__law_great, F__law_great.kp, k__law_great, ok_great TH F__law_great (C__law_take base) (C__law_pick base)⟩ : Cal P w K mg base CX0 3 "_law_great" _ spGreat _ _)
  have C__law_store := fun (base : Heap) => (⟨g__law_store, F__law_store.kp, k__law_store, K39S.ok_md TS L F__law_store (FI base) k_Store___init__⟩ : Cal P w K mg base CX0 7 "_law_store" _ (K39S.spMade K (He.ga K "Store")) _ _)
  have C__law_shown := fun (base : Heap) => (⟨g__law_shown, F__law_shown.kp, k__law_shown, K39S.ok_shn TS F__law_shown⟩ : Cal P w K mg base CX0 1 "_law_shown" _ K39S.spTxt _ _)
  have C__law_free := fun (base : Heap) => (⟨g__law_free, F__law_free.kp, k__law_free, ok_free TH F__law_free⟩ : Cal P w K mg base CX0 2 "_law_free" _ spFree _ _)
  have C__law_act := fun (base : Heap) => (⟨g__law_act, F__law_act.kp, k__law_act, ok_lact TH F__law_act (C__law_free base)⟩ : Cal P w K mg base CX0 3 "_law_act" _ spLAct _ _)
  have C__law_lacking := fun (base : Heap) => (⟨g__law_lacking, F__law_lacking.kp, k__law_lacking, ok_lack TH F__law_lacking⟩ : Cal P w K mg base CX0 1 "_law_lacking" _ spLack _ _)
  have C__law_due := fun (base : Heap) => (⟨g__law_due, F__law_due.kp, k__law_due, ok_due TH F__law_due (C__law_lacking base) (C__law_act base)⟩ : Cal P w K mg base CX0 4 "_law_due" _ (spDue K) _ _)
  have C__law_one_act := fun (base : Heap) => (⟨g__law_one_act, F__law_one_act.kp, k__law_one_act, ok_oa TH F__law_one_act (C__law_take base) (C__law_pick base)⟩ : Cal P w K mg base CX0 3 "_law_one_act" _ spAct _ _)
  have C__law_odd := fun (base : Heap) => (⟨g__law_odd, F__law_odd.kp, k__law_odd, ok_odd T F__law_odd (C__law_pick base)⟩ : Cal P w K mg base CX0 3 "_law_odd" _ (spOdd K) _ _)
  have w_done : KW K fd_done ["store", "deed"] := kbn0 F_done ["store", "deed"] (fun l => l) (fun r => r) fun _ _ _ _ _ _ us hl => match us, hl with | [_, _], _ => rfl
  have C__law_told := fun (base : Heap) => (⟨g__law_told, F__law_told.kp, k__law_told, ok_told TH Rn Rd Ru Rm Rf ne5 de5 ue5 me5 fe5 fe6 EM g_ArrowError F__law_told (C_done base) w_done⟩ : Cal P w K mg base CX0 9 "_law_told" _ (spTold K (He.ga K "Store")) _ _)
  have C__law_right := fun (base : Heap) => (⟨g__law_right, F__law_right.kp, k__law_right, ok_right TH S W L (PT base) F__law_right (C__law_pick base) (C__law_drawn base) (C__law_store base) (C__law_odd base) (C__law_one_act base) (C__law_great base) (C__law_told base) (C__law_due base) (C__law_take base) (C__law_shown base)⟩ : CalG P w K mg base CX0 11 "_law_right" _ spG _ _)
  exact ⟨fd_law, fun s v => bA s [v] rfl, fun base _ _ => ok_law T F_law (C__law_right base) (C__law_well base)⟩
end K39H
open PySem PySem.W PySem.Calls PyProof.Rows
theorem PySem.Challenge.cw_arrowcells_k39_one_deed_on_a_store_holds : PySem.Challenge.rw_arrowcells_k39_one_deed_on_a_store.Holds := by
  w_on; o_law
  refine HandSHeadRun.head_any (r := OpenLaw.row PySem.Challenge.rw_arrowcells_k39_one_deed_on_a_store) (q := view (OpenLaw.row PySem.Challenge.rw_arrowcells_k39_one_deed_on_a_store).prog [56]) (H := K39H.hk) (ob := K39H.ob) (M := 5000) (loose := K39H.nm) (d := HandSHeadRun.topDef (OpenLaw.row PySem.Challenge.rw_arrowcells_k39_one_deed_on_a_store).prog 56) (kwd := []) K39H.ob_eq
    (by kernel_rfl) (fun s => by kernel_rfl) K39H.run (by kernel_rfl) (by kernel_rfl) (by kernel_rfl) (by rfl) (by first | assumption | decide +kernel) (by decide +kernel) ⟨rfl, rfl, rfl, rfl, rfl, by decide +kernel⟩ ?hw ?hc
  case hw => w_witness2
  case hc =>
    refine Ga.walk_G (l := PySem.Challenge.rw_arrowcells_k39_one_deed_on_a_store) (n := 63) (k := 12) (x := "_law_script") (CX := fun _ => L2.CX0) rfl (by decide) (by kernel_rfl) ⟨rfl, by decide, by decide⟩ ?F (fun _ _ _ _ _ z => z)
    intro w mg fa h Y G hmg0
    obtain ⟨K, KX, c, cx, pp⟩ := Y
    have hmg : mg ("law" : PySem.Str) = some (.ref fa) := by
      have e : (HandSHeadRun.topDef (OpenLaw.row PySem.Challenge.rw_arrowcells_k39_one_deed_on_a_store).prog 56).name = ("law" : PySem.Str) := by kernel_rfl
      rw [← e]
      exact hmg0
    obtain ⟨fd, hb, hF⟩ := K39H.facts (P := (PySem.Challenge.rw_arrowcells_k39_one_deed_on_a_store).prog) (w := w) KX G hmg c cx pp
    exact ⟨K, fd, K39.spLaw K, KX, hb, fun H a ns hl _ hS => ⟨a, ns, rfl, hS, hl, fun _ => rfl⟩, hF⟩

