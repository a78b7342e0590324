import PyProof.Rows.All
import Wide.All
import OpenK.AllK
import Wide.FinOn
import HandS.ForMost
import HandS.Defaults
import HandS.WordsExc
import HandS.HeadHook1
import HandS.HeadHook2
import HandS.Style
import HandS.Wide
import HandS.WideBits
import HandS.Gcd
import HandS.IsInst
import HandS.Exc
import HandS.ExcOwn
import HandS.ExcInit
import HandS.ExcField
import HandS.TryOnly
import HandS.FStr
import HandS.RaiseMore
import PyProof.ReprRoads
import HandS.NoneIn
import PyProof.ReprLen
import PyProof.StrLawsRepr
import HandS.ExcIs
import KE.KExcIs
import HandS.TupAny
import PyProof.EqAt
import PyProof.P3In
import PyProof.NeKinds
import PyProof.ListStr
import PySem.Challenge.RW_arrowcells_k10_orders_of_plans
import HandS.Property
import HandS.Head0
import HandS.Head1
import HandS.Head2
import HandS.Text
import HandS.Deep
import HandS.OwnEq
import KE.KStateDown
import Lean
import HandS.Head3
import HandS.HeadEnd
import HandS.Walk
import HandS.Conv
import KE.KRevSl
import HandS.MakeKw
import HandS.Iter
import HandS.Dict
import KE.KDictPairs
import KE.GoesEnum
import HandS.ForSpec
import HandS.SortRule
import HandS.SetFor
import HandS.Strs
import KE.KSortTupUse
import HandS.Codes
import HandS.SetTxt0
import HandS.List
import PyProof.Rows.SortStr
import PyProof.CollectStr
import PyProof.StrWalks
import KE.GoesMore
import KE.OsScanText
import HandS.DictComp
import HandS.Comp
import KE.LtData
import PyProof.Rows.SumAny
import HandS.TupLe
set_option Elab.async false
set_option linter.all false
set_option maxRecDepth 100000
set_option maxHeartbeats 2000000
namespace Ga
open PySem PySem.Spec PyProof.Rows L2
/-- a def's promise where no repr is under way -/
structure FnG (P : Program) (w : World) (K : PySem.W.Frag) (mg : Str → Option Value) (base : Heap) (CX : CXT) (k : Nat) (f : Addr) (fd : FuncData) (ps : List Str) (sp : Sp) : Prop where
  cnt : ∀ vs H Q E, sp vs H Q E → vs.length = ps.length
  go : ∀ (A : Around) (ev : List Env) (s : Shared) (H : Hp) (ar : Args) (us : List Value) (vs : List V) (Q : VK) (E : XK),
    A.guards = some [] → Room k A → Env0 P w K mg base A ev s H → BindsTo s fd ar (ps.zip us) → Vals vs us →
    sp vs H Q E → codeAny (model P w) A (.call (.ref f) ar) (CR CX ev P w H s Q E) s
section
variable {P : Program} {w : World} {K : PySem.W.Frag} {mg : Str → Option Value} {base : Heap} {CX : CXT} {k : Nat} {f : Addr} {fd : FuncData} {ps : List Str} {sp : Sp}
theorem FnG.of (F : FnOk P w K mg base CX k f fd ps sp) : FnG P w K mg base CX k f fd ps sp :=
  ⟨F.len, fun A ev s H ar us vs Q E _ => F.run A ev s H ar us vs Q E⟩
theorem FnG.mk' {params : Arguments} {body : List Stmt} {sc : Scope} {x qual : Str} {dvs : List V} {kws : List (Str × V)} {N : List Str}
    (F : FunD K x qual params body sc dvs kws f fd) (S : FnScope N ps sc) (cnt : ∀ vs H Q E, sp vs H Q E → vs.length = ps.length)
    (hb : ∀ (cdv : Value) (A : Around) (ev : List Env) (s : Shared) (H : Hp) (vs : List V) (Q : VK) (E : XK), A.guards = some [] →
      Room k (A.deeper (envOfC qual sc s.heap.objs.size f cdv)) → sp vs H Q E →
      ∃ t, PSs (cxOf CX P w K mg base N qual sc f cdv A ev s H E) body t ∧ t { nx := fun _ H' => Q .non H', rt := Q } (start N vs) H) :
    FnG P w K mg base CX (k + 1) f fd ps sp := by
  obtain ⟨oc, od, dV, kV, doc, pm, an, cdv, ct, sl, e, lk, hcd, _, _⟩ := F.ex
  subst e
  refine ⟨cnt, ?_⟩
  intro A ev s H ar us vs Q E hg hr e0 hbi rv hsp
  have hk : K.In s.heap := e0.mod.kin.keeps (fun b o q => (e0.bs b o q).1)
  have hl : s.heap.NoLimit := e0.mod.nolimit.keeps (fun b o q => (e0.bs b o q).1)
  refine codeAny_call_function hr.depth (hk _ _ lk) rfl S.co S.gen rfl
    (PySem.W.codeRec_of hk hcd) (hbi _ _ _ _ ?_)
  refine wpAny_newFunctionEnv_cells S.kind ?_ ?_
  · rintro ⟨n, v⟩ hy
    have hp := S.par n (List.of_mem_zip hy).1
    cases hp with
    | inl q => exact .inl q
    | inr q => exact .inr ⟨q, PySem.W.cellsFrom_some _ _ _ (.inl q)⟩
  intro env he s1 x
  subst he
  refine ⟨hl.keeps x.toInCall.keep, codeAny_func ?_⟩
  obtain ⟨t, ht, hq⟩ := hb cdv A ev s H vs Q E hg (hr.deeper _) hsp
  have I := inv_start (CX := CX) (E := E) S hr.hd e0 (cnt _ _ _ _ hsp) rv x
  refine wpAny_mono (ht.run [] s1 _ H _ I hq) ?_ (fun _ _ z => z)
  intro fl s' hs
  cases fl with
  | brk => obtain ⟨_, _, _, q⟩ := hs; exact q.elim
  | cont => obtain ⟨_, _, _, q⟩ := hs; exact q.elim
  | next =>
    obtain ⟨_, H', J, q⟩ := hs
    exact ⟨.non, H', J.os, J.bare, J.base, J.hok, rfl, q⟩
  | ret u =>
    obtain ⟨v, _, H', J, r, q⟩ := hs
    exact ⟨v, H', J.os, J.bare, J.base, J.hok, r, q⟩
end
section
variable {X : Cx} {CX : CXT} {k : Nat} {f : Addr} {fd : FuncData} {ps : List Str} {sp : Sp} {E : XK} {x : Str} {p pos : Pos} {e : Expr} {es : List Expr} {t : TA} {ds : List Value} {dvs : List V}
theorem run_fnG {pins : List (Addr × Obj)} {σ : L2.St} {H : Hp} {s : Shared} {Q : VK} {us : List Value} {vs : List V} (F : FnG X.prog X.w X.K X.mg X.base CX k f fd ps sp) (hG : X.A.guards = some []) (hr : Room k X.A)
    (hb : Binds X.K fd ps ds) (hd : Vals dvs ds) (hx : Passes CX X E) (I : Inv X pins σ H s) (r : Vals vs us) (h : sp (vs ++ dvs) H Q E) : wpAny (model X.prog X.w) X.A (call (.ref f) us) (EP X pins σ Q) X.xe s := by
  have r2 := Vals.append r hd
  refine wpAny_call (codeAny_mono (F.go X.A X.stack s H ⟨us, []⟩ (us ++ ds) (vs ++ dvs) Q E hG hr I.env0
    (hb s us I.kIn (r2.length.symm.trans (F.cnt _ _ _ _ h))) r2 h) ?_)
  intro res s' hq
  cases res with
  | error er => exact hx pins σ H s er s' I hq
  | ok fl =>
    cases fl <;> first
      | exact I.after hq
      | exact hq.elim
theorem pe_callG (F : FnG X.prog X.w X.K X.mg X.base CX k f fd ps sp) (hG : X.A.guards = some []) (hr : Room k X.A) (hg : Gl X x) (hm : X.mg x = some (.ref f))
    (hk : PySem.W.keepIn X.K (.ref f) = true) (hb : Binds X.K fd ps ds) (hd : Vals dvs ds) (hx : Passes CX X E) (ha : PA X (e :: es) t)
    (hdb : (x == ("__debug__" : Str)) = false := by decide)
    (he : starEach (e :: es) X.env = (false, eval e X.env) :: starEach es X.env := by rfl)
    (hpl : (backTo pos (starEach es X.env)).any (·.1) = false := by rfl) : PE X (.Call (.Name x p) (e :: es) [] pos) (tCall sp dvs E t) := by
  constructor
  intro pins s σ H Q I h
  refine wpAny_Call_Name_kw (ld_glob I hg hm ?_ hdb)
  refine PySem.W.callWith_K (h₀ := X.base) I.ok.mod.kin hk ?_ he hpl
  refine thn (ha.run pos pins s σ H _ I h) ?_
  rintro us s1 ⟨vs, H1, I1, r, q⟩
  exact ⟨I1.kIn, run_fnG F hG hr hb hd hx I1 r q⟩
end
/-! ### repr of data -/
def dpt : PyData → Nat := PyData.depth
def rRepr (K : PySem.W.Frag) : List V → Hp → VK → Prop := fun xs H Q => ∃ (x : V) (d : PyData), xs = [x] ∧ Dp K H x d ∧ d.showable = true ∧ d.hasDict = false ∧ d.depth ≤ 50 ∧ d.shown.length ≤ sizeLine ∧ (∀ i, d = .int i → i.natAbs.log2 < 1920) ∧ Q (.str d.shown) H
theorem call_repr {X : Cx} {k : Nat} (hG : X.A.guards = some []) (hr : Room k X.A) : CallR X (.builtin "repr") (rRepr X.K) := by
  intro pins s σ H xs us Q I rv h
  obtain ⟨x, d, rfl, hd, hs, hn, hdp, hz, hi, q⟩ := h
  cases rv with
  | cons rx rn =>
    cases rn
    have fin : ∀ (tk : Nat) (u : Tok), EP X pins σ Q (.str d.shown u) { s with toks := tk } := fun tk u => ⟨.str d.shown, H, I.tok _, ⟨u, rfl⟩, q⟩
    obtain ⟨as, rd⟩ := Dp.reads I d x _ hd rx
    have hu := hr.units
    cases hd with
    | non => cases rx; exact PySem.P.repr_of_none (fin _ _)
    | bl b => cases rx; cases b <;> exact PySem.P.repr_of_bool (fin _ _)
    | int i => obtain ⟨t, rfl⟩ := rx; exact PySem.P.repr_of_int (hi i rfl) (fin _ _)
    | str y => obtain ⟨t, rfl⟩ := rx; exact PySem.P.repr_of_str (fin _ _) hz
    | lst ha hb =>
      cases rx
      refine repr_of_reads' rd hs (fun z => ?_) hG (by omega) (fun _ _ z => z) (fun h' u tk hk => ?_) hz
      · rw [hn] at z; cases z
      · exact ⟨.str _, H, I.kept (t' := tk) hk, ⟨u, rfl⟩, q⟩
    | tup ha hb =>
      cases rx
      refine repr_of_reads' rd hs (fun z => ?_) hG (by omega) (fun _ _ z => z) (fun h' u tk hk => ?_) hz
      · rw [hn] at z; cases z
      · exact ⟨.str _, H, I.kept (t' := tk) hk, ⟨u, rfl⟩, q⟩
/-! ### the law's end -/
theorem end_G {P : Program} {w : World} {K : PySem.W.Frag} {mg mb : Str → Option Value} {CX : CXT} {k : Nat} {fa a : Addr} {fd : FuncData} {x : Str} {sp : Sp} {s1 : Shared} {vs : List Value} {ns : List Int}
    (KX : K.In s1.heap) (hns : s1.heap.Ns mainGlobals mg) (hbn : s1.heap.Ns builtinsNs mb) (hbb : ∀ x : Str, x ≠ "__name__" → mb x = bootBuiltins x) (hlim : s1.heap.NoLimit) (hg : s1.gens = #[])
    (ha : s1.heap.get? a = some { cls := .type "list", data := .seq vs.toArray }) (hi : IntsAre vs ns) (hl : ns.length ≤ sizeLine) (hr : Room k callerA)
    (F : ∀ base : Heap, K.In base → base.Ns mainGlobals mg → FnG P w K mg base CX k fa fd [x] sp) (hbind : ∀ (s : Shared) (u : Value), BindsTo s fd ⟨[u], []⟩ [(x, u)])
    (hsp : ∀ H : Hp, Only H → SqL K H a (ns.map V.int) → sp [.ref a] H (fun v _ => v = .bl true) fun _ _ _ => False)
    (hCX : ∀ H e s', CX [] H s1 (fun _ _ _ => False) e s' → False) :
    codeAny (model P w) callerA (.call (.ref fa) ⟨[.ref a], []⟩)
      (fun r s' => r = .ok (.ret (.bool true)) ∧ OldK s1.heap s'.heap ∧ s'.os = s1.os ∧ AllBare s'.gens) s1 := by
  let ob : Obj := { cls := .type "list", data := .seq vs.toArray }
  have rv : Vals (ns.map V.int) vs := vals_ints hi
  have main : ∀ H : Hp, (∀ b, H b = none ∨ (b = a ∧ K.lookup a = none ∧ H b = some (.frz ob (.lst (ns.map V.int))))) → SqL K H a (ns.map V.int) →
      codeAny (model P w) callerA (.call (.ref fa) ⟨[.ref a], []⟩)
        (fun r s' => r = .ok (.ret (.bool true)) ∧ OldK s1.heap s'.heap ∧ s'.os = s1.os ∧ AllBare s'.gens) s1 := by
    intro H hH hS
    have hok : HOk P w H s1.heap := by
      intro b u e
      rcases hH b with z | ⟨rfl, _, z⟩
      · rw [e] at z; cases z
      · rw [e] at z; cases z
        exact ⟨ha, by rw [List.length_map]; exact hl, vs, _, rv, ha⟩
    have nsH : ∀ {b : Addr} {m : Str → Option Value}, s1.heap.Ns b m → (hidT s1.heap H).Ns b m := by
      rintro b m ⟨o, es, ep, e, d, r⟩
      refine ⟨o, es, ep, hidT_get e ?_, d, r⟩
      rcases hH b with z | ⟨rfl, _, z⟩
      · exact z
      · rw [ha] at e; cases e; cases (show Data.seq vs.toArray _ = Data.dict es ep from d)
    have kB : K.In (hidT s1.heap H) := by
      intro b o e
      refine hidT_get (KX b o e) ?_
      rcases hH b with z | ⟨rfl, n, z⟩
      · exact z
      · rw [n] at e; cases e
    obtain ⟨mc, l1, l2⟩ := hlim
    have e0 : Env0 P w K mg (hidT s1.heap H) callerA [] s1 H :=
      ⟨rfl, ⟨kB, nsH hns, ⟨mb, nsH hbn, hbb⟩, ⟨mc, nsH l1, l2⟩⟩, fun b o e => of_hidT e, by rw [hidT_size]; exact Nat.le_refl _, trivial, fun b hb => (nomatch hb), hok, .of_eq hg⟩
    have hO : Only H := by
      intro b
      rcases hH b with z | ⟨_, _, z⟩
      · exact .inl z
      · exact .inr ⟨_, _, z⟩
    refine codeAny_mono ((F _ kB (nsH hns)).go callerA [] s1 H ⟨[.ref a], []⟩ [.ref a] [.ref a] _ _ rfl hr e0 (hbind s1 (.ref a)) (.cons rfl .nil) (hsp H hO hS)) ?_
    intro r s' h
    match r, h with
    | .error e, h => exact (hCX H e s' h).elim
    | .ok (.ret u), h =>
      obtain ⟨v, H', os, bare, un, hok', r', q⟩ := h
      subst q
      cases r'
      refine ⟨rfl, OldK.of_keep ?_, os, bare⟩
      intro b o e
      rcases hH b with z | ⟨rfl, _, z⟩
      · exact un.keep b o e z (fun hm => nomatch hm) (fun hm => nomatch hm)
      · have z2 := un.frzs _ _ _ z
        have y := (hok' _ _ z2).1
        rw [ha] at e; cases e
        exact y
    | .ok .next, h => exact h.elim
    | .ok .brk, h => exact h.elim
    | .ok .cont, h => exact h.elim
  cases hk : K.lookup a with
  | some o =>
    have e := KX a o hk
    rw [ha] at e
    cases e
    exact main (fun _ => none) (fun _ => .inl rfl) (.inr ⟨_, vs.toArray, _, hk, rfl, rfl, rfl, by rw [List.size_toArray, hi.length]; exact hl, rv⟩)
  | none =>
    refine main (fun b => if b = a then some (.frz ob (.lst (ns.map V.int))) else none) (fun b => ?_) (.inl (.inr ⟨ob, if_pos rfl⟩))
    by_cases hb : b = a
    · exact .inr ⟨hb, hk, if_pos hb⟩
    · exact .inl (if_neg hb)
theorem walk_G {l : PySem.W.OpenLaw} {n k : Nat} {q : Program} {loose : List Str} {XP : (Str → Option Value) → Heap → Prop} {YP : World → Heap → Prop} {d : DefRec} {CX : World → CXT} {x : Str}
    (hn : l.most = some n) (hn2 : n ≤ sizeLine) (hdf : d.params.defaults = []) (hr : Room k callerA)
    (F : ∀ (w : World) (mg : Str → Option Value) (fa : Addr) (h : Heap), YP w h → h.Ns mainGlobals mg → mg d.name = some (.ref fa) →
      ∃ (K : PySem.W.Frag) (fd : FuncData) (sp : Sp), K.In h ∧ (∀ (s : Shared) (u : Value), BindsTo s fd ⟨[u], []⟩ [(x, u)]) ∧
        (∀ (H : Hp) (a : Addr) (ns : List Int), ns.length ≤ n → Only H → SqL K H a (ns.map V.int) → sp [.ref a] H (fun v _ => v = .bl true) fun _ _ _ => False) ∧
        ∀ base : Heap, K.In base → base.Ns mainGlobals mg → FnG l.prog w K mg base (CX w) k fa fd [x] sp)
    (hCX : ∀ (w : World) (H : Hp) (s : Shared) (e : Value) (s' : Shared), CX w [] H s (fun _ _ _ => False) e s' → False) :
    PySem.W.WalkO q loose XP YP l.row.toRowW d [] (fun f vs => PySem.call f vs) := by
  refine Att.attach_call hn hdf ?_
  intro w s0 s1 mg mb fa o pm cd doc a vs ns G Y ho hd hcd hmg hobj hints hlen hg
  obtain ⟨K, fd, sp, KX, hb, hsp, hF⟩ := F w mg fa _ Y G.T.g hmg
  exact end_G KX G.T.g G.T.b G.T.builtins G.T.nolimit hg hobj hints (Nat.le_trans hlen hn2) hr hF hb
    (fun H hO hS => hsp H a ns hlen hO hS) (fun H e s' => hCX w H s1 e s')
/-! ### a head's facts with one more Bool -/
open He in
abbrev AlM : Type := AlD × Bool
open He in
def obsM (n : Nat) (fa : List Fa) (fn : List DefD) (ex : PySem.W.Frag → Bool) (g : Addr → Option Obj) : AlM := (obsD fa fn (frG g (asD g n)), ex (frG g (asD g n)))
open He in
def hookM (n : Nat) (fa : List Fa) (fn : List DefD) (ex : PySem.W.Frag → Bool) : PySem.W.Hook where
  α := AlM
  obs := fun s => obsM n fa fn ex s.heap.get?
  val := fun _ => (valD fn, true)
  says := fun _ h => ∃ K : PySem.W.Frag, K.In h ∧ SaysD fa fn K ∧ ex K = true
  of := fun _ _ e => ⟨_, frG_in, congrArg Prod.fst e, congrArg Prod.snd e⟩
  keeps := fun _ _ _ ⟨K, hK, c⟩ k => ⟨K, PySem.W.Frag.In.keeps hK k, c⟩
open He in
theorem obsM_eq {n : Nat} {fa : List Fa} {fn : List DefD} {ex : PySem.W.Frag → Bool} {g : Addr → Option Obj} {s : Shared} (h : ∀ a, g a = s.heap.get? a) : obsM n fa fn ex g = (hookM n fa fn ex).obs s := by
  obtain rfl : g = s.heap.get? := funext h
  rfl
end Ga

set_option Elab.async false
set_option linter.all false
set_option maxRecDepth 100000
set_option maxHeartbeats 2000000
/-! readings, written out where they are applied -/
namespace Rd
open PySem PySem.Spec PyProof.Rows L2
section
variable {σ : L2.St} {H : Hp} {Q : VK} {D : Ends} {ta tb tc te to ti : TE} {r r' : R2} {t u : TS} {tt tu : TT} {QB : Bool → Hp → Prop} {QL : List V → Hp → Prop} {TA1 TA2 : TA} {K : PySem.W.Frag} {QS : L2.St → Hp → Prop}
theorem tVar_ {i : Nat} : tVar i σ H Q = ∃ v, σ[i]? = some (some v) ∧ Q v H := rfl
theorem tC_ {v : V} : tC v σ H Q = Q v H := rfl
theorem tOp_ : tOp r ta tb σ H Q = ta σ H fun x H1 => tb σ H1 fun y H2 => r x y H2 Q := rfl
theorem tUn_ {f : V → Hp → VK → Prop} : tUn f ta σ H Q = ta σ H fun x H1 => f x H1 Q := rfl
theorem rI_ {C : Int → Int → Prop} {g : Int → Int → V} {x y : V} : rI C g x y H Q = ∃ i j, x = .int i ∧ y = .int j ∧ C i j ∧ Q (g i j) H := rfl
theorem rI0_ {g : Int → Int → V} {x y : V} : rI0 g x y H Q = ∃ i j, x = .int i ∧ y = .int j ∧ Q (g i j) H := rfl
theorem rU_ {g : Int → V} {x : V} : rU g x H Q = ∃ i, x = .int i ∧ Q (g i) H := rfl
theorem rEq_ {x y : V} : rEq x y H Q = (scal x y = true ∧ Q (.bl (decide (x = y))) H) := rfl
theorem rNe_ {x y : V} : rNe x y H Q = (scal x y = true ∧ Q (.bl (!decide (x = y))) H) := rfl
theorem tAndV_ : tAndV ta tb σ H Q = ta σ H fun x H1 => ∃ c, x = .bl c ∧ if c = true then tb σ H1 Q else Q (.bl false) H1 := rfl
theorem tOrV_ : tOrV ta tb σ H Q = ta σ H fun x H1 => ∃ c, x = .bl c ∧ if c = true then Q (.bl true) H1 else tb σ H1 Q := rfl
theorem tNotV_ : tNotV ta σ H Q = ta σ H fun x H1 => ∃ c, x = .bl c ∧ Q (.bl (!c)) H1 := rfl
theorem tIf_ : tIf tt ta tb σ H Q = tt σ H fun c H1 => if c = true then ta σ H1 Q else tb σ H1 Q := rfl
theorem tTest_ : tTest ta σ H QB = ta σ H fun x H' => ∃ k, x = .bl k ∧ QB k H' := rfl
theorem tB_ : tB ta σ H QB = ta σ H fun x H1 => ∃ c, x = .bl c ∧ QB c H1 := rfl
theorem tAnd_ : tAnd tt tu σ H QB = tt σ H fun c H1 => if c = true then tu σ H1 QB else QB false H1 := rfl
theorem tOr_ : tOr tt tu σ H QB = tt σ H fun c H1 => if c = true then QB true H1 else tu σ H1 QB := rfl
theorem tNot_ : tNot tt σ H QB = tt σ H fun c H1 => QB (!c) H1 := rfl
theorem tChain_ : tChain r r' ta tb tc σ H Q = ta σ H fun x H1 => tb σ H1 fun y H2 => r x y H2 fun z H3 => ∃ k, z = .bl k ∧ (if k = true then tc σ H3 fun w' H4 => r' y w' H4 Q else Q (.bl false) H3) := rfl
theorem tNil_ : tNil σ H QL = QL [] H := rfl
theorem tCons_ : tCons ta TA1 σ H QL = ta σ H fun x H1 => TA1 σ H1 fun xs H2 => QL (x :: xs) H2 := rfl
theorem tTup_ : tTup TA1 σ H Q = TA1 σ H fun xs H1 => xs.length ≤ sizeLine ∧ ∀ p, H1 p = none → Q (.ref p) (upd H1 p (.tup xs)) := rfl
theorem tLst_ : tLst TA1 σ H Q = TA1 σ H fun xs H1 => xs.length ≤ sizeLine ∧ ∀ p, H1 p = none → Q (.ref p) (upd H1 p (.lst xs)) := rfl
theorem tCB_ {f : List V → Hp → VK → Prop} : tCB f TA1 σ H Q = TA1 σ H fun vs H1 => f vs H1 Q := rfl
theorem tCall_ {sp : Sp} {dvs : List V} {E : XK} : tCall sp dvs E TA1 σ H Q = TA1 σ H fun vs H1 => sp (vs ++ dvs) H1 Q E := rfl
theorem tSeq_ : tSeq t u D σ H = t { D with nx := u D } σ H := rfl
theorem tNext_ : tNext D σ H = D.nx σ H := rfl
theorem tRet_ : tRet ta D σ H = ta σ H D.rt := rfl
theorem tRetN_ : tRetN D σ H = D.rt .non H := rfl
theorem tDrop_ : tDrop ta D σ H = ta σ H fun _ H1 => D.nx σ H1 := rfl
theorem tNever_ : tNever D σ H = False := rfl
theorem tBreak_ : tBreak D σ H = D.bk σ H := rfl
theorem tIfS_ : tIfS tt t u D σ H = tt σ H fun b H1 => if b = true then t D σ H1 else u D σ H1 := rfl
theorem tAsg_ {g : TG} : tAsg ta g D σ H = ta σ H fun x H1 => g x σ H1 D.nx := rfl
theorem gName_ {i : Nat} {v : V} : gName i v σ H QS = QS (σ.set i (some v)) H := rfl
theorem gTup_ {n : Nat} {g : TGs} {v : V} : gTup K n g v σ H QS = ∃ a xs, v = .ref a ∧ SqT K H a xs ∧ xs.length = n ∧ g xs σ H QS := rfl
theorem gCons_ {g : TG} {gs : TGs} {vs : List V} : gCons g gs vs σ H QS = ∃ v r, vs = v :: r ∧ g v σ H fun σ' H' => gs r σ' H' QS := rfl
theorem gNil_ {vs : List V} : gNil vs σ H QS = (vs = [] ∧ QS σ H) := rfl
theorem gSub_ {s : TSet} {v : V} : gSub to ti s v σ H QS = to σ H fun o H1 => ti σ H1 fun i H2 => s o i v H2 fun H3 => QS σ H3 := rfl
theorem tPar_ {i j : Nat} : tPar i j TA1 D σ H = TA1 σ H fun vs H1 => ∃ v w, vs = [v, w] ∧ D.nx ((σ.set i (some v)).set j (some w)) H1 := rfl
theorem tPar3_ {i j l : Nat} : tPar3 i j l TA1 D σ H = TA1 σ H fun vs H1 => ∃ u v w, vs = [u, v, w] ∧ D.nx (((σ.set i (some u)).set j (some v)).set l (some w)) H1 := rfl
theorem tSl_ {f : V → Option Int → Option Int → Hp → VK → Prop} {tl th : TO} : tSl f te tl th σ H Q = te σ H fun x H1 => tl σ H1 fun l H2 => th σ H2 fun u H3 => f x l u H3 Q := rfl
theorem tNoPart_ {Q : Option Int → Hp → Prop} : tNoPart σ H Q = Q none H := rfl
theorem tPart_ {Q : Option Int → Hp → Prop} : tPart ta σ H Q = ta σ H fun x H1 => ∃ i, x = .int i ∧ Q (some i) H1 := rfl
theorem tBM_ {T : String} {f : V → List V → Hp → VK → Prop} : tBM K T f to TA1 σ H Q = to σ H fun x H1 => tyV K T x H1 ∧ TA1 σ H1 fun xs H2 => f x xs H2 Q := rfl
theorem tDNewK_ : tDNewK σ H Q = ∀ p, H p = none → Q (.ref p) (upd H p (.dK [])) := rfl
theorem tFor_range1 {g : TG} {tb : TS} : tFor (iRng1 TA1) g tb D σ H = TA1 σ H fun vs H1 => ∃ j : Int, vs = [.int j] ∧ -(2 ^ 62) ≤ j ∧ j < 2 ^ 62 ∧ tFor (fun _ H R => R (Itr 0 j.toNat) H) g tb D σ H1 := rfl
theorem tFor_range2 {g : TG} {tb : TS} : tFor (iRng2 TA1) g tb D σ H = TA1 σ H fun vs H1 => ∃ i j : Int, vs = [.int i, .int j] ∧ (-(2 ^ 62) ≤ i ∧ i < 2 ^ 62 ∧ -(2 ^ 62) ≤ j ∧ j < 2 ^ 62) ∧ tFor (fun _ H R => R (Itr i (j - i).toNat) H) g tb D σ H1 := rfl
theorem tFor_list {g : TG} {tb : TS} : tFor (iList K ta) g tb D σ H = ta σ H fun x H1 => ∃ a, x = .ref a ∧ (∃ xs, SqL K H1 a xs) ∧ tFor (fun _ H R => R (Itl K a) H) g tb D σ H1 := rfl
theorem tFor_tup {g : TG} {tb : TS} : tFor (iTup K ta) g tb D σ H = ta σ H fun x H1 => ∃ a, x = .ref a ∧ (∃ xs, SqT K H1 a xs) ∧ tFor (fun _ H R => R (Itt K a) H) g tb D σ H1 := rfl
end
/-- a for over a range, by an invariant -/
theorem for_r {lo : Int} {n : Nat} {g : TG} {tb : TS} {D : Ends} {σ : L2.St} {H : Hp} (Pv : Nat → L2.St → Hp → Prop) (h0 : Pv 0 σ H)
    (hs : ∀ i σ H, i < n → Pv i σ H → g (.int (lo + i)) σ H fun σ2 H2 => tb { D with nx := Pv (i + 1), ct := Pv (i + 1), bk := D.nx } σ2 H2) (hd : ∀ σ H, Pv n σ H → D.nx σ H) :
    tFor (fun _ H R => R (Itr lo n) H) g tb D σ H := for_range Pv h0 hs hd
theorem for_l {K : PySem.W.Frag} {a : Addr} {xs : List V} {g : TG} {tb : TS} {D : Ends} {σ : L2.St} {H : Hp} (Pv : Nat → L2.St → Hp → Prop) (h0 : Pv 0 σ H) (hl : ∀ i σ H, i ≤ xs.length → Pv i σ H → SqL K H a xs)
    (hs : ∀ i x σ H, xs[i]? = some x → Pv i σ H → g x σ H fun σ2 H2 => tb { D with nx := Pv (i + 1), ct := Pv (i + 1), bk := D.nx } σ2 H2) (hd : ∀ σ H, Pv xs.length σ H → D.nx σ H) :
    tFor (fun _ H R => R (Itl K a) H) g tb D σ H := for_list Pv h0 hl hs hd
/-- all but u stands as it stood -/
def But (u : Addr) (H H' : Hp) : Prop := ∀ b o, b ≠ u → H b = some o → H' b = some o
theorem But.refl {u : Addr} {H : Hp} : But u H H := fun _ _ _ e => e
theorem But.trans {u : Addr} {H H1 H2 : Hp} (a : But u H H1) (b : But u H1 H2) : But u H H2 := fun c o n e => b c o n (a c o n e)
theorem But.same {u : Addr} {H H1 : Hp} (a : Same H H1) : But u H H1 := fun c o _ e => a c o e
theorem same_new {H : Hp} {p : Addr} {o : HO} (n : H p = none) : Same H (upd H p o) := fun b u e => by rw [upd_ne (ne_of_none e n)]; exact e
theorem But.put {u : Addr} {H : Hp} {o : HO} : But u H (upd H u o) := fun b _ n e => by rw [upd_ne n]; exact e
theorem some_or {H : Hp} {a b : Addr} {o : HO} (h : H a = some o) (n : H b = none) : a ≠ b := ne_of_none h n
/-- the callee as its callers know it -/
structure Cal (P : Program) (w : World) (K : PySem.W.Frag) (mg : Str → Option Value) (base : Heap) (CX : CXT) (k : Nat) (x : Str) (ps : List Str) (sp : Sp) (f : Addr) (fd : FuncData) : Prop where
  g : mg x = some (.ref f)
  kp : PySem.W.keepIn K (.ref f) = true
  b : Binds K fd ps []
  F : FnOk P w K mg base CX k f fd ps sp
structure CalG (P : Program) (w : World) (K : PySem.W.Frag) (mg : Str → Option Value) (base : Heap) (CX : CXT) (k : Nat) (x : Str) (ps : List Str) (sp : Sp) (f : Addr) (fd : FuncData) : Prop where
  g : mg x = some (.ref f)
  kp : PySem.W.keepIn K (.ref f) = true
  b : Binds K fd ps []
  F : Ga.FnG P w K mg base CX k f fd ps sp
/-! ### an own error with one field -/
structure Er (K : PySem.W.Frag) (mg : Str → Option Value) (x n : Str) (C fI : Addr) (fdI : FuncData) : Prop where
  gC : mg x = some (.ref C)
  oex : OexC K C
  noN : PySem.W.findIn K (.ref C) n = some none
  iC : PySem.W.findIn K (.ref C) "__init__" = some (some (.ref fI))
  tI : PySem.W.typeIn K (.ref fI) = some (.type "function")
  dn : (n == ("__debug__" : Str)) = false
  dc : (n == ("__classdict__" : Str)) = false
  F : ∃ (qual : Str) (params : Arguments) (scope : Scope) (q1 q2 q3 q4 : Pos), FunD K "__init__" qual params [.Assign [.Attribute (.Name "self" q1) n q2] (.Name n q3) q4] scope [] [] fI fdI ∧ FnScope ["self", n] ["self", n] scope
  b : Binds K fdI ["self", n] []
section
variable {P : Program} {w : World} {K : PySem.W.Frag} {mg : Str → Option Value} {base : Heap} {x n : Str} {C fI : Addr} {fdI : FuncData}
def spInitE (K : PySem.W.Frag) (n : Str) (C : Addr) : Sp := fun vs H Q _ => ∃ (a : Addr) (v : V), vs = [.ref a, v] ∧ H a = some (exo a C none) ∧ ∀ dx, H dx = none → dx ≠ a → Q .non (upd (upd H dx (exd dx [(n, v)])) a (exo a C (some dx)))
theorem ok_initE (R : Er K mg x n C fI fdI) : FnOk P w K mg base CX0 1 fI fdI ["self", n] (spInitE K n C) := by
  obtain ⟨qual, params, scope, q1, q2, q3, q4, F, S⟩ := R.F
  refine F.ok S (fun vs H Q E h => ?_) (fun cdv A outer s H vs Q E hr h => ?_)
  · obtain ⟨a, v, rfl, _⟩ := h
    rfl
  · obtain ⟨a, v, rfl, ha, k⟩ := h
    have vis : ∀ y ∈ (["self", n] : List Str), scope.names.lookup y = some .local ∨ scope.names.lookup y = some .cell ∨ scope.names.lookup y = some .free := fun y hy => (S.par y hy).elim .inl fun z => .inr (.inl z)
    refine ⟨_, pss_one (ps_ost (pe_var (i := 0) rfl (vis _ (by simp))) (pe_var (i := 1) rfl (vis _ (by simp)) R.dn R.dc)), ?_⟩
    exact ⟨_, rfl, _, rfl, a, C, rfl, R.oex, R.noN, .inl ⟨ha, fun dx h1 h2 => k dx h1 h2⟩⟩
end
/-- raise X(e) -/
def tRaise (C : Addr) (n : Str) (W : WX) (te : TE) : TS := fun _ σ H => te σ H fun x H1 => ∀ d, H1 d = none → W (.ref C) (some d) σ (upd H1 d (.xd [(n, x)]))
theorem tRaise_ {C : Addr} {n : Str} {W : WX} {te : TE} {D : Ends} {σ : L2.St} {H : Hp} : tRaise C n W te D σ H = te σ H fun x H1 => ∀ d, H1 d = none → W (.ref C) (some d) σ (upd H1 d (.xd [(n, x)])) := rfl
theorem tCallS_ {sp : Sp} {E : L2.St → XK} {t : TA} {σ : L2.St} {H : Hp} {Q : VK} : tCallS sp E t σ H Q = t σ H fun vs H1 => sp vs H1 Q (E σ) := rfl
theorem mono_var {i : Nat} : ∀ σ H Q Q', (∀ x H1, Q x H1 → Q' x H1) → tVar i σ H Q → tVar i σ H Q' := fun _ _ _ _ f ⟨v, e, q⟩ => ⟨v, e, f _ _ q⟩
theorem ps_raiseE {X : Cx} {x n : Str} {C fI : Addr} {fdI : FuncData} {W : WX} {a : Expr} {te : TE} {p pos pos2 : Pos} {k : Nat} (hc : X.calm = true) (R : Er X.K X.mg x n C fI fdI) (hr : Room (k + 2) X.A) (tk : Takes X W) (ha : PE X a te)
    (mono : ∀ σ H Q Q', (∀ x H1, Q x H1 → Q' x H1) → te σ H Q → te σ H Q')
    (hg : Gl X x := by rfl) (hd : (x == ("__debug__" : Str)) = false := by decide) (he : starEach (a :: []) X.env = (false, eval a X.env) :: starEach [] X.env := by rfl) (hpl : (backTo pos (starEach [] X.env)).any (·.1) = false := by rfl) :
    PS X (.Raise (some (.Call (.Name x p) [a] [] pos)) none pos2) (tRaise C n W te) := by
  have G : FnOk X.prog X.w X.K X.mg X.base CX0 1 fI fdI ["self", n] (spInitE X.K n C) := ok_initE R
  have h := ps_raise (pos := pos2) hc tk (pmk_oex (p := p) (pos := pos) R.oex R.iC R.tI G (hr.mono (by omega)) R.b .nil (fun _ _ _ _ _ _ _ z => z.elim) hg R.gC (pa_cons ha pa_nil he) hd he hpl)
  refine ⟨fun pins s σ H D I q => h.run pins s σ H D I ?_⟩
  refine mono σ H _ _ (fun x H1 q1 => ?_) q
  refine ⟨by show 1 ≤ 1000; decide, fun b hb => ⟨b, x, rfl, upd_same, fun dx h1 h2 => ⟨rfl, dx, [(n, x)], upd_same, ?_, ?_, ?_⟩⟩⟩
  · rw [upd_ne h2, upd_same]
  · rw [upd_ne h2] at h1; exact h1
  · have h3 : H1 dx = none := by rw [upd_ne h2] at h1; exact h1
    have e : upd (del (upd (upd (upd H1 b (exo b C none)) dx (exd dx [(n, x)])) b (exo b C (some dx))) b) dx (.xd [(n, x)]) = upd H1 dx (.xd [(n, x)]) := by
      funext c
      by_cases c1 : c = dx
      · rw [c1, upd_same, upd_same]
      · rw [upd_ne c1, upd_ne c1]
        by_cases c2 : c = b
        · rw [c2, del_same, hb]
        · rw [del_ne c2, upd_ne c2, upd_ne c1, upd_ne c2]
    rw [e]
    exact q1 dx h3
/-- plain values that the checks here meet: ints, bools, None, texts, the empty tuple -/
inductive Smp (H : Hp) : V → Prop
  | non : Smp H .non
  | bl (b : Bool) : Smp H (.bl b)
  | int (i : Int) : Smp H (.int i)
  | str (x : Str) : Smp H (.str x)
  | tup {a : Addr} (h : H a = some (.tup [])) : Smp H (.ref a)
theorem Smp.up {H H' : Hp} {v : V} (h : Smp H v) (s : ∀ a, H a = some (.tup []) → H' a = some (.tup [])) : Smp H' v := by
  cases h with
  | non => exact .non
  | bl b => exact .bl b
  | int i => exact .int i
  | str x => exact .str x
  | tup h => exact .tup (s _ h)
def wholeB : V → Bool
  | .int _ => true
  | _ => false
def iv : V → Int
  | .int i => i
  | _ => 0
def btw (x : V) (lo hi : Int) : Bool := wholeB x && (decide (lo ≤ iv x) && decide (iv x ≤ hi))
theorem btw_int {i lo hi : Int} : btw (.int i) lo hi = (decide (lo ≤ i) && decide (i ≤ hi)) := by unfold btw; rfl
theorem btw_int' {i lo hi : Int} (h1 : lo ≤ i) (h2 : i ≤ hi) : btw (.int i) lo hi = true := by rw [btw_int, decide_eq_true h1, decide_eq_true h2]; rfl
theorem btw_of {x : V} {lo hi : Int} (h : btw x lo hi = true) : ∃ i, x = .int i ∧ lo ≤ i ∧ i ≤ hi := by
  cases x with
  | int i =>
    rw [btw_int, Bool.and_eq_true] at h
    exact ⟨i, rfl, of_decide_eq_true h.1, of_decide_eq_true h.2⟩
  | _ => cases h
/-! ### f(k = v, ..) -/
def tCallK (sp : Sp) (gV : List V → List V) (m : Nat) (E : XK) (tk : TA) : TE := fun σ H Q => tk σ H fun zs H1 => zs.length = m ∧ sp (gV zs) H1 Q E
theorem tCallK_ {sp : Sp} {gV : List V → List V} {m : Nat} {E : XK} {tk : TA} {σ : L2.St} {H : Hp} {Q : VK} : tCallK sp gV m E tk σ H Q = tk σ H fun zs H1 => zs.length = m ∧ sp (gV zs) H1 Q E := rfl
section
variable {X : Cx} {CX : CXT} {k : Nat} {f : Addr} {fd : FuncData} {ps ks : List Str} {sp : Sp} {E : XK} {x : Str} {p pos : Pos} {kws : List Keyword} {tk : TA} {g : List Value → List Value} {gV : List V → List V}
theorem pe_callKw (F : FnOk X.prog X.w X.K X.mg X.base CX k f fd ps sp) (hr : Room k X.A) (hg : Gl X x) (hm : X.mg x = some (.ref f)) (hk : PySem.W.keepIn X.K (.ref f) = true)
    (hb : KBn X.K fd ps 0 ks (fun _ ws => g ws) (fun _ zs => gV zs)) (hx : Passes CX X E) (hkw : PK X kws tk)
    (hall : (backToKw pos (keywordEach kws X.env)).all (·.1.isSome) = true := by rfl) (hks : (backToKw pos (keywordEach kws X.env)).filterMap (·.1) = ks := by rfl)
    (hdb : (x == ("__debug__" : Str)) = false := by decide)
    (hpl : ((backTo pos (starEach [] X.env)).any (·.1) || (backToKw pos (keywordEach kws X.env)).any (·.1.isNone)) = false := by rfl) :
    PE X (.Call (.Name x p) [] kws pos) (tCallK sp gV ks.length E tk) := by
  constructor
  intro pins s σ H Q I h
  refine wpAny_Call_Name_kw (ld_glob I hg hm ?_ hdb)
  refine PySem.W.callWith_KW0 (h₀ := X.base) I.ok.mod.kin hk hall ?_ hpl
  refine thn (hkw.run pos pins s σ H _ I h) ?_
  rintro ws s2 ⟨zs, H2, I2, rz, l2, q2⟩
  refine ⟨I2.kIn, ?_⟩
  rw [hks]
  exact run_fnN (us := []) (vs := []) F hr hb hx I2 .nil rz rfl l2 q2
end
theorem kbn0 {K : PySem.W.Frag} {x qual : Str} {params : Arguments} {body : List Stmt} {scope : Scope} {f : Addr} {fd : FuncData} {ps : List Str} (F : FunD K x qual params body scope [] [] f fd) (ks : List Str) (g : {α : Type} → List α → List α)
    (hrel : ∀ {vs : List V} {us : List Value}, Vals vs us → Vals (g vs) (g us))
    (h : ∀ (kV doc pm : Value) (an : Option Addr) (cdv ct : Value) (ws : List Value), ws.length = ks.length → bindArgs (PySem.W.fnOf x qual params body scope .none kV doc pm an cdv ct) ⟨[], ks.zip ws⟩ = pure (ps.zip (g ws))) :
    KBn K fd ps 0 ks (fun _ ws => g ws) (fun _ zs => g zs) := by
  obtain ⟨oc, od, dV, kV, doc, pm, an, cdv, ct, sl, e, lk, hcd, hD, hK⟩ := F.ex
  rcases hD with ⟨_, e2⟩ | ⟨z, _⟩
  · subst e2 e
    refine ⟨fun s us ws X l1 l2 => ?_, fun _ r => hrel r⟩
    obtain rfl : us = [] := List.eq_nil_of_length_eq_zero l1
    exact .of_eq (h kV doc pm an cdv ct ws l2)
  · exact absurd rfl z
theorem gUnl_ {K : PySem.W.Frag} {n : Nat} {g : TGs} {v : V} {σ : L2.St} {H : Hp} {QS : L2.St → Hp → Prop} : gUnl K n g v σ H QS = ∃ a xs, v = .ref a ∧ SqL K H a xs ∧ xs.length = n ∧ g xs σ H QS := rfl
theorem sIx_none {n d : Nat} : HT.sIx n d none = d := rfl
/-- one statement at a time -/
theorem sq {t u : TS} {D : Ends} {σ : L2.St} {H : Hp} (h : ∀ U : L2.St → Hp → Prop, (∀ σ' H', u D σ' H' → U σ' H') → t { D with nx := U } σ H) : tSeq t u D σ H := h (u D) fun _ _ x => x
theorem ite2n {a b A B : Prop} [Decidable a] [Decidable b] (h : ¬ (a ∧ b)) (hB : B) : if a then (if b then A else B) else B := by
  by_cases ha : a
  · rw [if_pos ha, if_neg (fun hb => h ⟨ha, hb⟩)]; exact hB
  · rw [if_neg ha]; exact hB
section
variable {H : Hp} {Q : VK} {i j : Int} {a b : Str} {c e : Bool}
theorem eq_ii : rEq (.int i) (.int j) H Q = Q (.bl (decide (i = j))) H := by
  have h : decide (V.int i = V.int j) = decide (i = j) := by simp
  show (_ ∧ Q (.bl (decide (V.int i = V.int j))) H) = _
  rw [h]; simp [scal]
theorem ne_ii : rNe (.int i) (.int j) H Q = Q (.bl (!decide (i = j))) H := by
  have h : decide (V.int i = V.int j) = decide (i = j) := by simp
  show (_ ∧ Q (.bl (!decide (V.int i = V.int j))) H) = _
  rw [h]; simp [scal]
theorem eq_ss : rEq (.str a) (.str b) H Q = Q (.bl (decide (a = b))) H := by
  have h : decide (V.str a = V.str b) = decide (a = b) := by simp
  show (_ ∧ Q (.bl (decide (V.str a = V.str b))) H) = _
  rw [h]; simp [scal]
theorem ne_ss : rNe (.str a) (.str b) H Q = Q (.bl (!decide (a = b))) H := by
  have h : decide (V.str a = V.str b) = decide (a = b) := by simp
  show (_ ∧ Q (.bl (!decide (V.str a = V.str b))) H) = _
  rw [h]; simp [scal]
theorem eq_bb : rEq (.bl c) (.bl e) H Q = Q (.bl (decide (c = e))) H := by
  have h : decide (V.bl c = V.bl e) = decide (c = e) := by simp
  show (_ ∧ Q (.bl (decide (V.bl c = V.bl e))) H) = _
  rw [h]; simp [scal]
theorem ne_bb : rNe (.bl c) (.bl e) H Q = Q (.bl (!decide (c = e))) H := by
  have h : decide (V.bl c = V.bl e) = decide (c = e) := by simp
  show (_ ∧ Q (.bl (!decide (V.bl c = V.bl e))) H) = _
  rw [h]; simp [scal]
end
theorem rGcd_ {vs : List V} {H : Hp} {Q : VK} : rGcd vs H Q = ∃ a b : Int, vs = [.int a, .int b] ∧ Q (.int ((Nat.gcd a.natAbs b.natAbs : Nat) : Int)) H := rfl
theorem max_if {a b : Int} : (if b > a then b else a) = max a b := by
  by_cases h : b > a
  · rw [if_pos h]; omega
  · rw [if_neg h]; omega
section
variable {K : PySem.W.Frag} {H : Hp} {Q : VK} {x y : V}
theorem rIxL_ : rIxL K x y H Q = ∃ p xs i v, x = .ref p ∧ y = .int i ∧ SqL K H p xs ∧ atI xs i = some v ∧ Q v H := rfl
theorem rIxT_ : rIxT K x y H Q = ∃ p xs i v, x = .ref p ∧ y = .int i ∧ SqT K H p xs ∧ atI xs i = some v ∧ Q v H := rfl
theorem rSlL_ {lo hi : Option Int} : rSlL K x lo hi H Q = ∃ a xs, x = .ref a ∧ SqL K H a xs ∧ ∀ p, H p = none → Q (.ref p) (upd H p (.lst (cutV xs lo hi))) := rfl
theorem rCat_ : rCat x y H Q = ∃ l b xs zs, x = .ref l ∧ y = .ref b ∧ H l = some (.lst xs) ∧ H b = some (.lst zs) ∧ xs.length + zs.length ≤ sizeLine ∧ ∀ p, H p = none → Q (.ref p) (upd H p (.lst (xs ++ zs))) := rfl
theorem rSetL_ {o i v : V} {Q : Hp → Prop} : rSetL o i v H Q = ∃ p xs k j, o = .ref p ∧ i = .int k ∧ H p = some (.lst xs) ∧ ixN xs.length k = some j ∧ Q (upd H p (.lst (xs.set j v))) := rfl
theorem atI_nn {α : Type} {xs : List α} {i : Int} {v : α} (h0 : 0 ≤ i) (h : xs[i.toNat]? = some v) : atI xs i = some v := by
  have hl : i.toNat < xs.length := (List.getElem?_eq_some_iff.mp h).1
  unfold atI ixN
  rw [if_pos h0, if_pos (by omega)]
  exact h
end
theorem rRep_ {x y : V} {H : Hp} {Q : VK} : rRep x y H Q = ∃ l k xs, x = .ref l ∧ y = .int k ∧ H l = some (.lst xs) ∧ -(2 ^ 63) ≤ k ∧ k < 2 ^ 63 ∧ xs.length * k.toNat ≤ sizeLine ∧ ∀ p, H p = none → Q (.ref p) (upd H p (.lst (List.replicate k.toNat xs).flatten)) := rfl
end Rd

set_option Elab.async false
set_option linter.all false
set_option maxRecDepth 100000
set_option maxHeartbeats 2000000
/-! data: what is compared and shown -/
namespace Dt
open PySem PySem.Spec PyProof.Rows L2 Rd
/-- data of a bounded text -/
structure Fit (d : PyData) (k n : Nat) : Prop where
  s : d.showable = true
  h : d.hasDict = false
  dp : d.depth ≤ k
  sz : d.shown.length ≤ n
  c : d.canLay0 = true
theorem Fit.mono {d : PyData} {k n k' n' : Nat} (f : Fit d k n) (h1 : k ≤ k') (h2 : n ≤ n') : Fit d k' n' := ⟨f.s, f.h, Nat.le_trans f.dp h1, Nat.le_trans f.sz h2, f.c⟩
theorem Fit.non : Fit .none 0 5 := ⟨rfl, rfl, Nat.le_refl _, by show (PyData.shown .none).length ≤ 5; unfold PyData.shown; decide +kernel, rfl⟩
theorem Fit.bl (b : Bool) : Fit (.bool b) 0 5 := ⟨rfl, rfl, Nat.le_refl _, by unfold PyData.shown; cases b <;> decide +kernel, rfl⟩
theorem Fit.int {i : Int} {k : Nat} (h0 : 0 < k) (h9 : k ≤ 1919) (h : i.natAbs < 2 ^ k) : Fit (.int i) 0 (k + 1) := by
  have lg : i.natAbs.log2 < k := by
    by_cases z : i.natAbs = 0
    · rw [z]; show Nat.log2 0 < k; rw [Nat.log2_zero]; exact h0
    · exact (Nat.log2_lt z).mpr h
  refine ⟨?_, rfl, Nat.le_refl _, ?_, rfl⟩
  · show decide (i.natAbs.log2 < 1920) = true
    exact decide_eq_true (by omega)
  · have e : (PyData.shown (.int i)) = Str.ofString (toString i) := by unfold PyData.shown; rfl
    rw [e, PySem.ofString_length]
    exact int_text_length_le h0 lg
theorem sum_le {α : Type} (f : α → Nat) (n : Nat) : ∀ l : List α, (∀ x ∈ l, f x ≤ n) → (l.map f).sum ≤ l.length * n
  | [], _ => by simp
  | x :: l, h => by
    have h1 := h x List.mem_cons_self
    have h2 := sum_le f n l fun y hy => h y (List.mem_cons_of_mem _ hy)
    rw [List.map_cons, List.sum_cons, List.length_cons, Nat.add_mul, Nat.one_mul]
    omega
theorem fitAll {k n : Nat} : ∀ {ds : List PyData}, (∀ d ∈ ds, Fit d k n) → PyData.showableAll ds = true ∧ PyData.hasDictAll ds = false ∧ PyData.depthAll ds ≤ k ∧ (∀ t ∈ PyData.shownAll ds, t.length ≤ n) ∧ (PyData.shownAll ds).length = ds.length ∧ PyData.canLayAll0 ds = true
  | [], _ => ⟨rfl, rfl, Nat.zero_le _, fun t ht => (by rw [PyData.shownAll] at ht; cases ht), (by rw [PyData.shownAll]; rfl), rfl⟩
  | d :: ds, h => by
    have f := h d List.mem_cons_self
    obtain ⟨a, b, c, e, g, l⟩ := fitAll fun x hx => h x (List.mem_cons_of_mem _ hx)
    refine ⟨by rw [PyData.showableAll, f.s, a]; rfl, by rw [PyData.hasDictAll, f.h, b]; rfl, by rw [PyData.depthAll]; have := f.dp; omega, ?_, by rw [PyData.shownAll, List.length_cons, List.length_cons, g], by rw [PyData.canLayAll0, f.c, l]; rfl⟩
    intro t ht
    rw [PyData.shownAll] at ht
    rcases List.mem_cons.mp ht with z | z
    · rw [z]; exact f.sz
    · exact e t z
theorem Fit.list {ds : List PyData} {k n : Nat} (h : ∀ d ∈ ds, Fit d k n) : Fit (.list ds) (k + 1) (ds.length * (n + 2) + 3) := by
  obtain ⟨a, b, c, e, g, l⟩ := fitAll h
  refine ⟨by rw [PyData.showable, a], by rw [PyData.hasDict, b], by rw [PyData.depth]; omega, ?_, by rw [PyData.canLay0, l]⟩
  rw [PyData.shown]
  have h1 := listText_len_le (PyData.shownAll ds)
  have h2 := sum_le (·.length) n (PyData.shownAll ds) e
  rw [g] at h1 h2
  rw [Nat.mul_add]
  omega
theorem Fit.tuple {ds : List PyData} {k n : Nat} (h : ∀ d ∈ ds, Fit d k n) : Fit (.tuple ds) (k + 1) (ds.length * (n + 2) + 3) := by
  obtain ⟨a, b, c, e, g, l⟩ := fitAll h
  refine ⟨by rw [PyData.showable, a], by rw [PyData.hasDict, b], by rw [PyData.depth]; omega, ?_, by rw [PyData.canLay0, l]⟩
  rw [PyData.shown]
  have h1 := tupleText_len_le (PyData.shownAll ds)
  have h2 := sum_le (·.length) n (PyData.shownAll ds) e
  rw [g] at h1 h2
  rw [Nat.mul_add]
  omega
theorem Fit.str {x : Str} {n : Nat} (h : x.length ≤ n) (hc : ∀ c ∈ x.cps.toList, c < 0x110000) : Fit (.str x) 0 (10 * n + 2) := by
  have e : PyData.shown (.str x) = reprText x := by unfold PyData.shown; rfl
  refine ⟨rfl, rfl, Nat.le_refl _, ?_, ?_⟩
  · rw [e]
    have := StrLaws.reprText_len x fun c hc' => Nat.lt_trans (hc c hc') (by decide)
    omega
  · show x.cps.all (· < 0x110000) = true
    rw [← Array.all_toList, List.all_eq_true]
    intro c hc'
    exact decide_eq_true (hc c hc')
theorem Fit.shaped {d : PyData} {k n : Nat} (f : Fit d k n) (h : k ≤ 64) : SeqAt.shaped d = true := by
  have := f.dp
  show (d.canLay0 && decide (d.depth ≤ 64)) = true
  rw [f.c, decide_eq_true (show d.depth ≤ 64 by omega)]; rfl
/-- repr of such data -/
theorem rRepr_fit {K : PySem.W.Frag} {H : Hp} {Q : VK} {x : V} {d : PyData} {k n : Nat} (f : Fit d k n) (hk : k ≤ 50) (hn : n ≤ 1000000) (dd : Dp K H x d) (q : Q (.str d.shown) H) : Ga.rRepr K [x] H Q := by
  have := f.dp
  have := f.sz
  refine ⟨x, d, rfl, dd, f.s, f.h, by omega, Nat.le_trans (Nat.le_trans f.sz hn) (by rw [sizeLine_eq]; decide), ?_, q⟩
  intro i e
  have z := f.s
  rw [e] at z
  exact of_decide_eq_true z
theorem Dp.ints {K : PySem.W.Frag} {H : Hp} : ∀ (ns : List Int), DpAll K H (ns.map V.int) (ns.map PyData.int)
  | [] => .nil
  | n :: ns => .cons (.int n) (Dp.ints ns)
mutual
theorem Dp.up {K : PySem.W.Frag} {H H' : Hp} (hs : Same H H') : ∀ (d : PyData) (v : V), Dp K H v d → Dp K H' v d
  | .none, _, h => by cases h; exact .non
  | .bool b, _, h => by cases h; exact .bl b
  | .int b, _, h => by cases h; exact .int b
  | .str b, _, h => by cases h; exact .str b
  | .dict b, _, h => by cases h
  | .list ds, _, h => by
    cases h with
    | lst a b => exact .lst (hs.seq a) (DpAll.up hs ds _ b)
  | .tuple ds, _, h => by
    cases h with
    | tup a b =>
      refine .tup ?_ (DpAll.up hs ds _ b)
      rcases a with (a | ⟨o, a⟩) | a
      · exact .inl (.inl (hs _ _ a))
      · exact .inl (.inr ⟨o, hs _ _ a⟩)
      · exact .inr a
theorem DpAll.up {K : PySem.W.Frag} {H H' : Hp} (hs : Same H H') : ∀ (ds : List PyData) (vs : List V), DpAll K H vs ds → DpAll K H' vs ds
  | [], _, h => by cases h; exact .nil
  | d :: ds, _, h => by
    cases h with
    | cons a b => exact .cons (Dp.up hs d _ a) (DpAll.up hs ds _ b)
end
theorem eqv_ints : ∀ xs ys : List Int, PyData.eqvAll (xs.map .int) (ys.map .int) = decide (xs = ys)
  | [], [] => rfl
  | [], _ :: _ => by simp [PyData.eqvAll]
  | _ :: _, [] => by simp [PyData.eqvAll]
  | x :: xs, y :: ys => by
    rw [List.map_cons, List.map_cons, PyData.eqvAll, eqv_ints xs ys, PyData.eqv]
    by_cases h : x = y
    · subst h; simp
    · simp [h]
theorem eqv_listI (xs ys : List Int) : PyData.eqv (.list (xs.map .int)) (.list (ys.map .int)) = decide (xs = ys) := by rw [PyData.eqv, eqv_ints]
theorem fit_ints {ns : List Int} {k : Nat} (h0 : 0 < k) (h9 : k ≤ 1919) (h : ∀ n ∈ ns, n.natAbs < 2 ^ k) : Fit (.list (ns.map .int)) 1 (ns.length * (k + 3) + 3) := by
  have := Fit.list (ds := ns.map PyData.int) (k := 0) (n := k + 1) (fun d hd => by
    obtain ⟨n, hn, rfl⟩ := List.mem_map.mp hd
    exact Fit.int h0 h9 (h n hn))
  rwa [List.length_map] at this
theorem rNeD_ {K : PySem.W.Frag} {H : Hp} {Q : VK} {x y : V} {d e : PyData} {k n k' n' : Nat} (fd : Fit d k n) (fe : Fit e k' n') (hk : k ≤ 64) (hk' : k' ≤ 64) (hd : Dp K H x d) (he : Dp K H y e) (q : Q (.bl (!PyData.eqv d e)) H) : rNeD K x y H Q :=
  ⟨d, e, hd, he, fd.shaped hk, fe.shaped hk', q⟩
theorem rEqD_ {K : PySem.W.Frag} {H : Hp} {Q : VK} {x y : V} {d e : PyData} {k n k' n' : Nat} (fd : Fit d k n) (fe : Fit e k' n') (hk : k ≤ 64) (hk' : k' ≤ 64) (hd : Dp K H x d) (he : Dp K H y e) (q : Q (.bl (PyData.eqv d e)) H) : rEqD K x y H Q :=
  ⟨d, e, hd, he, fd.shaped hk, fe.shaped hk', q⟩
section
variable {K : PySem.W.Frag} {H : Hp} {σ : L2.St} {Q : VK} {g : TG} {tt : TT} {te : TE} {vs : List Nat} {TA1 : TA} {ta : TE}
theorem wipe0 : wipe σ [] = σ := rfl
theorem wipe1 {v : Nat} {vs : List Nat} : wipe σ (v :: vs) = (wipe σ vs).set v none := rfl
theorem tLc_range1 : tLc (iRng1 TA1) g tt te vs σ H Q = TA1 σ H fun ws H1 => ∃ j : Int, ws = [.int j] ∧ -(2 ^ 62) ≤ j ∧ j < 2 ^ 62 ∧ tLc (fun _ H R => R (Itr 0 j.toNat) H) g tt te vs σ H1 Q := rfl
theorem tLc_range2 : tLc (iRng2 TA1) g tt te vs σ H Q = TA1 σ H fun ws H1 => ∃ i j : Int, ws = [.int i, .int j] ∧ (-(2 ^ 62) ≤ i ∧ i < 2 ^ 62 ∧ -(2 ^ 62) ≤ j ∧ j < 2 ^ 62) ∧ tLc (fun _ H R => R (Itr i (j - i).toNat) H) g tt te vs σ H1 Q := rfl
theorem tLc_list : tLc (iList K ta) g tt te vs σ H Q = ta σ H fun x H1 => ∃ a, x = .ref a ∧ (∃ xs, SqL K H1 a xs) ∧ tLc (fun _ H R => R (Itl K a) H) g tt te vs σ H1 Q := rfl
theorem tLc_tup : tLc (iTup K ta) g tt te vs σ H Q = ta σ H fun x H1 => ∃ a, x = .ref a ∧ (∃ xs, SqT K H1 a xs) ∧ tLc (fun _ H R => R (Itt K a) H) g tt te vs σ H1 Q := rfl
theorem tYes_ {QB : Bool → Hp → Prop} : tYes σ H QB = QB true H := rfl
/-- what a turn of a comprehension asks -/
def Lturn (g : TG) (tt : TT) (te : TE) (vs : List Nat) (σ : L2.St) (D : Addr) (x : V) (H : Hp) (Nx : Hp → Prop) : Prop := g x (wipe σ vs) H fun σ2 H2 => wipe σ2 vs = wipe σ vs ∧ tt σ2 H2 fun b H3 =>
  if b = true then te σ2 H3 fun y H4 => ∃ acc, H4 D = some (.lst acc) ∧ acc.length < sizeLine ∧ Nx (upd H4 D (.lst (acc ++ [y]))) else Nx H3
theorem lc_r {lo : Int} {n : Nat} (Pv : Addr → Nat → Hp → Prop) (h : ∀ D, H D = none → Pv D 0 (upd H D (.lst [])) ∧ (∀ i H', i < n → Pv D i H' → Lturn g tt te vs σ D (.int (lo + i)) H' (Pv D (i + 1))) ∧ (∀ H', Pv D n H' → Q (.ref D) H')) :
    tLc (fun _ H R => R (Itr lo n) H) g tt te vs σ H Q := fun D hD => lc_range (Pv D) (h D hD).1 (h D hD).2.1 (h D hD).2.2
theorem lc_l {a : Addr} {xs : List V} (Pv : Addr → Nat → Hp → Prop) (h : ∀ D, H D = none → Pv D 0 (upd H D (.lst [])) ∧ (∀ i H', i ≤ xs.length → Pv D i H' → SqL K H' a xs) ∧ (∀ i x H', xs[i]? = some x → Pv D i H' → Lturn g tt te vs σ D x H' (Pv D (i + 1))) ∧ (∀ H', Pv D xs.length H' → Q (.ref D) H')) :
    tLc (fun _ H R => R (Itl K a) H) g tt te vs σ H Q := fun D hD => lc_list (xs := xs) (Pv D) (h D hD).1 (h D hD).2.1 (h D hD).2.2.1 (h D hD).2.2.2
theorem lc_t {a : Addr} {xs : List V} (Pv : Addr → Nat → Hp → Prop) (h : ∀ D, H D = none → Pv D 0 (upd H D (.lst [])) ∧ (∀ i H', i ≤ xs.length → Pv D i H' → SqT K H' a xs) ∧ (∀ i x H', xs[i]? = some x → Pv D i H' → Lturn g tt te vs σ D x H' (Pv D (i + 1))) ∧ (∀ H', Pv D xs.length H' → Q (.ref D) H')) :
    tLc (fun _ H R => R (Itt K a) H) g tt te vs σ H Q := fun D hD => lc_tup (xs := xs) (Pv D) (h D hD).1 (h D hD).2.1 (h D hD).2.2.1 (h D hD).2.2.2
end
end Dt

set_option Elab.async false
set_option linter.all false
set_option maxRecDepth 100000
set_option maxHeartbeats 2000000
/-! isinstance of a caught error that has fields -/
namespace Exx
open PySem PySem.Spec PyProof.Rows L2 Rd
def rIsX (K : PySem.W.Frag) (C a : Addr) (cls : Value) (d : Option Addr) : List V → Hp → VK → Prop := fun xs H Q => ∃ (c : V) (cv : Value) (b : Bool) (dd : Addr) (fs : List (Str × V)), xs = [.ref a, c] ∧ cls = .ref C ∧ (∀ u, RelV c u → u = cv) ∧ d = some dd ∧ H dd = some (.xd fs) ∧ PySem.W.kitOne K (.ref C) cv = some b ∧ Q (.bl b) H
theorem call_isX {X : Cx} {a C : Addr} {oe : Obj} {cls : Value} {d : Option Addr} {pn : List (Addr × Obj)} (E : ExcC X.K C) (hz : Zc cls d oe) (hf : ∃ vs, oe.data = .fields vs) : CallR (X.suite a ((a, oe) :: pn)) (.builtin "isinstance") (rIsX X.K C a cls d) := by
  intro pins s σ H xs us Q I r h
  obtain ⟨c, cv, b, dd, fs, rfl, ec, hcv, ed, hd, e, q⟩ := h
  subst ec ed
  cases r with
  | cons rx rr =>
    cases rr with
    | cons rt rr =>
      cases rr
      cases rx
      have ec := hcv _ rt
      subst ec
      obtain ⟨hget, _⟩ := I.pin (a, oe) (List.mem_append_left _ List.mem_cons_self)
      obtain ⟨vs, hv⟩ := hf
      have hx : ObjOk X.prog X.w H s.heap dd (.xd fs) := I.hok dd _ hd
      obtain ⟨mA, hns, hr⟩ := hx
      obtain ⟨od, ho, hl⟩ := lookIn_ns hns
      have J : PySem.W.InstAt s.heap a oe C (some od) := ⟨hget, hz.1, by unfold PySem.W.notCls; rw [hv] <;> rfl, by rw [hz.2]; exact ho⟩
      have hcl : (PySem.W.clsIn X.K C).isSome = true := by
        obtain ⟨cd, hc, _⟩ := PySem.W.any_some E.hd
        rw [hc]; rfl
      exact PySem.W.kia_one (PySem.W.kitx_exc (od := some od) hcl E.hg E.hk E.hs E.ha E.hn E.ht E.hm) I.kIn J e (fun z => nomatch z) fun tk => ⟨.bl b, H, I.kept (t' := tk) fun _ _ z => z, rfl, q⟩
def exB (K : PySem.W.Frag) (C : Addr) : Bool := decide (PySem.W.findIn K (.ref C) "__getattribute__" = some (some (.builtin "BaseException.__getattribute__"))) && (decide (PySem.W.findIn K (.ref C) "__getattr__" = some none) && (decide (PySem.W.subIn K (.ref C) (.type "BaseException") = some true) &&
  (PySem.W.hasDictIn K C && (decide (PySem.W.findIn K (.ref C) "__class__" = some (some (.builtin "object.__class__"))) && (decide (PySem.W.specialIn K (.builtin "object.__class__") "__get__" = some (some (.builtin "getset_descriptor.__get__"))) && (decide (PySem.W.takesIn K (.builtin "object.__class__") = some true) && decide (PySem.W.mroIn K C (.type "object") = some true)))))))
theorem exB_ok {K : PySem.W.Frag} {C : Addr} (h : exB K C = true) : ExcC K C := by
  unfold exB at h
  simp only [Bool.and_eq_true, decide_eq_true_eq] at h
  obtain ⟨h1, h2, h3, h4, h5, h6, h7, h8⟩ := h
  exact ⟨h1, h2, h3, h4, h5, h6, h7, h8⟩
/-- what a table of the written part says of an own error -/
def oexB (K : PySem.W.Frag) (C : Addr) : Bool := (match K.lookup C with
  | some ⟨.type "type", _, .cls cd, sl⟩ => (match cd.mro, sl.toList with
    | .ref C' :: bm, [_, _, _, _, some (.builtin n), _] => decide (C' = C) && (decide (n = "ValueError.__new__") && (cd.hasDict && (!cd.hasDel && PySem.HandSPX.refsVE bm)))
    | _, _ => false)
  | _ => false) && (decide (PySem.W.findIn K (.ref C) "__setattr__" = some (some (.builtin "object.__setattr__"))) && (decide (PySem.W.subIn K (.ref C) (.type "BaseException") = some true) && (decide (PySem.W.typeIn K (.ref C) = some (.type "type")) && PySem.W.keepIn K (.ref C))))
theorem oexB_ok {K : PySem.W.Frag} {C : Addr} (h : oexB K C = true) : OexC K C := by
  unfold oexB at h
  obtain ⟨h1, h⟩ := Bool.and_eq_true_iff.mp h
  obtain ⟨h2, h⟩ := Bool.and_eq_true_iff.mp h
  obtain ⟨h3, h⟩ := Bool.and_eq_true_iff.mp h
  obtain ⟨h4, h5⟩ := Bool.and_eq_true_iff.mp h
  refine ⟨?_, of_decide_eq_true h2, of_decide_eq_true h3, of_decide_eq_true h4, h5⟩
  split at h1
  · rename_i dd cd sl ho
    split at h1
    · rename_i C' bm k0 k1 k2 k3 n k5 hm hs
      obtain ⟨nm, bs, mro, ns, qn, hd, sn, sb, ab, col, del⟩ := cd
      obtain ⟨sl⟩ := sl
      dsimp only at h1 hm hs
      subst hm hs
      obtain ⟨e1, h1⟩ := Bool.and_eq_true_iff.mp h1
      obtain ⟨e2, h1⟩ := Bool.and_eq_true_iff.mp h1
      obtain ⟨e3, h1⟩ := Bool.and_eq_true_iff.mp h1
      obtain ⟨e4, e5⟩ := Bool.and_eq_true_iff.mp h1
      have e1' := of_decide_eq_true e1
      have e2' := of_decide_eq_true e2
      subst e1' e2'
      cases hd with
      | false => cases e3
      | true =>
        cases del with
        | true => cases e4
        | false => exact ⟨nm, qn, ns, bs, bm, sn, sb, ab, col, dd, k0, k1, k2, k3, k5, ho, e5⟩
    · cases h1
  · cases h1
/-- all that is asked of an own error's class, by its name and its field's -/
def erB (K : PySem.W.Frag) (x n : Str) : Bool := oexB K (He.ga K x) && (decide (PySem.W.findIn K (.ref (He.ga K x)) n = some none) && (decide (PySem.W.findIn K (.ref (He.ga K x)) "__init__" = some (some (.ref (He.ma K (He.ga K x) "__init__")))) &&
  (decide (PySem.W.typeIn K (.ref (He.ma K (He.ga K x) "__init__")) = some (.type "function")) && (xfB K (He.ga K x) && (exB K (He.ga K x) && decide (PySem.W.exmOne K (.ref (He.ga K x)) (.ref (He.ga K x)) = some true))))))
structure ErT (K : PySem.W.Frag) (x n : Str) : Prop where
  oex : OexC K (He.ga K x)
  noN : PySem.W.findIn K (.ref (He.ga K x)) n = some none
  iC : PySem.W.findIn K (.ref (He.ga K x)) "__init__" = some (some (.ref (He.ma K (He.ga K x) "__init__")))
  tI : PySem.W.typeIn K (.ref (He.ma K (He.ga K x) "__init__")) = some (.type "function")
  xf : XfC K (He.ga K x)
  ex : ExcC K (He.ga K x)
  te : PySem.W.exmOne K (.ref (He.ga K x)) (.ref (He.ga K x)) = some true
theorem erB_ok {K : PySem.W.Frag} {x n : Str} (h : erB K x n = true) : ErT K x n := by
  unfold erB at h
  simp only [Bool.and_eq_true, decide_eq_true_eq] at h
  obtain ⟨h1, h2, h3, h4, h5, h6, h7⟩ := h
  exact ⟨oexB_ok h1, h2, h3, h4, xfB_ok h5, exB_ok h6, h7⟩
end Exx

set_option Elab.async false
set_option linter.all false
set_option maxRecDepth 100000
set_option maxHeartbeats 2000000
/-! data in which an empty dict may lie -/
namespace Dq
open PySem PySem.Spec PyProof.Rows L2 Rd Dt
/-- what the head says of the modules' table -/
def SysD (K : PySem.W.Frag) : Prop := ∃ o : Obj, K.lookup sysModules = some o ∧ o.cls = .type "dict"
def smS (s : Str) : Bool := decide (s.length ≤ 10000) && PyData.strOk s
mutual
inductive Dq (K : PySem.W.Frag) (H : Hp) : V → PyData → Prop
  | non : Dq K H .non .none
  | bl (b : Bool) : Dq K H (.bl b) (.bool b)
  | int (i : Int) (h : i.natAbs < 1024) : Dq K H (.int i) (.int i)
  | str (x : Str) (h : smS x = true) : Dq K H (.str x) (.str x)
  | lst {a : Addr} {xs : List V} {ds : List PyData} : H a = some (.lst xs) → xs.length ≤ 2 → DqAll K H xs ds → Dq K H (.ref a) (.list ds)
  | tup {a : Addr} {xs : List V} {ds : List PyData} : H a = some (.tup xs) → DqAll K H xs ds → Dq K H (.ref a) (.tuple ds)
  | dic {a : Addr} : H a = some (.dK []) → Dq K H (.ref a) (.dict [])
inductive DqAll (K : PySem.W.Frag) (H : Hp) : List V → List PyData → Prop
  | nil : DqAll K H [] []
  | cons {v : V} {vs : List V} {d : PyData} {ds : List PyData} : Dq K H v d → DqAll K H vs ds → DqAll K H (v :: vs) (d :: ds)
end
variable {K : PySem.W.Frag} {H H' : Hp}
mutual
theorem Dq.ups {K : PySem.W.Frag} {H H' : Hp} (hs : ∀ a o, H a = some o → (∀ xs : List V, (o = .lst xs ∧ xs.length ≤ 2) ∨ o = .tup xs ∨ o = .dK [] → H' a = some o)) : ∀ (d : PyData) (v : V), Dq K H v d → Dq K H' v d
  | .none, _, h => by cases h; exact .non
  | .bool b, _, h => by cases h; exact .bl b
  | .int b, _, h => by cases h with | int _ h => exact .int b h
  | .str b, _, h => by cases h with | str _ h => exact .str b h
  | .dict b, _, h => by
    cases h with
    | dic a => exact .dic (hs _ _ a [] (.inr (.inr rfl)))
  | .list ds, _, h => by
    cases h with
    | lst a l b => exact .lst (hs _ _ a _ (.inl ⟨rfl, l⟩)) l (DqAll.ups hs ds _ b)
  | .tuple ds, _, h => by
    cases h with
    | tup a b => exact .tup (hs _ _ a _ (.inr (.inl rfl))) (DqAll.ups hs ds _ b)
theorem DqAll.ups {K : PySem.W.Frag} {H H' : Hp} (hs : ∀ a o, H a = some o → (∀ xs : List V, (o = .lst xs ∧ xs.length ≤ 2) ∨ o = .tup xs ∨ o = .dK [] → H' a = some o)) : ∀ (ds : List PyData) (vs : List V), DqAll K H vs ds → DqAll K H' vs ds
  | [], _, h => by cases h; exact .nil
  | d :: ds, _, h => by
    cases h with
    | cons a b => exact .cons (Dq.ups hs d _ a) (DqAll.ups hs ds _ b)
end
theorem Dq.up (hs : Same H H') {d : PyData} {v : V} (h : Dq K H v d) : Dq K H' v d := Dq.ups (fun a o e _ _ => hs a o e) d v h
theorem DqAll.up (hs : Same H H') {d : List PyData} {v : List V} (h : DqAll K H v d) : DqAll K H' v d := DqAll.ups (fun a o e _ _ => hs a o e) d v h
/-- data outlives what is done to other things -/
theorem Dq.keep {d : PyData} {v : V} (hs : ∀ a o, H a = some o → (∀ xs : List V, (o = .lst xs ∧ xs.length ≤ 2) ∨ o = .tup xs ∨ o = .dK [] → H' a = some o)) (h : Dq K H v d) : Dq K H' v d := Dq.ups hs d v h
theorem DqAll.keep {d : List PyData} {v : List V} (hs : ∀ a o, H a = some o → (∀ xs : List V, (o = .lst xs ∧ xs.length ≤ 2) ∨ o = .tup xs ∨ o = .dK [] → H' a = some o)) (h : DqAll K H v d) : DqAll K H' v d := DqAll.ups hs d v h
theorem DqAll.len : ∀ {vs : List V} {ds : List PyData}, DqAll K H vs ds → vs.length = ds.length
  | _, _, .nil => rfl
  | _, _, .cons _ h => congrArg (· + 1) h.len
theorem DqAll.at {vs : List V} {ds : List PyData} (h : DqAll K H vs ds) : ∀ {i : Nat} {d : PyData}, ds[i]? = some d → ∃ v, vs[i]? = some v ∧ Dq K H v d := by
  induction ds generalizing vs with
  | nil => intro i d e; cases i <;> cases e
  | cons x xs ih =>
    intro i d e
    cases h with
    | cons a b =>
      cases i with
      | zero => cases e; exact ⟨_, rfl, a⟩
      | succ i => exact ih b e
theorem DqAll.atV {vs : List V} {ds : List PyData} (h : DqAll K H vs ds) : ∀ {i : Nat} {v : V}, vs[i]? = some v → ∃ d, ds[i]? = some d ∧ Dq K H v d := by
  induction ds generalizing vs with
  | nil => intro i d e; cases h; cases i <;> cases e
  | cons x xs ih =>
    intro i d e
    cases h with
    | cons a b =>
      cases i with
      | zero => cases e; exact ⟨_, rfl, a⟩
      | succ i => exact ih b e
theorem DqAll.append {vs ws : List V} {ds es : List PyData} (h : DqAll K H vs ds) (g : DqAll K H ws es) : DqAll K H (vs ++ ws) (ds ++ es) := by
  induction ds generalizing vs with
  | nil => cases h; exact g
  | cons x xs ih =>
    cases h with
    | cons a b => exact .cons a (ih b)
theorem DqAll.take {vs : List V} {ds : List PyData} (h : DqAll K H vs ds) : ∀ n, DqAll K H (vs.take n) (ds.take n) := by
  induction ds generalizing vs with
  | nil => intro n; cases h; simp; exact .nil
  | cons x xs ih =>
    intro n
    cases h with
    | cons a b =>
      cases n with
      | zero => exact .nil
      | succ n => exact .cons a (ih b n)
theorem DqAll.drop {vs : List V} {ds : List PyData} (h : DqAll K H vs ds) : ∀ n, DqAll K H (vs.drop n) (ds.drop n) := by
  induction ds generalizing vs with
  | nil => intro n; cases h; simp; exact .nil
  | cons x xs ih =>
    intro n
    cases h with
    | cons a b =>
      cases n with
      | zero => exact .cons a b
      | succ n => exact ih b n
mutual
theorem Dq.dp {K : PySem.W.Frag} {H : Hp} : ∀ (d : PyData) (v : V), d.hasDict = false → Dq K H v d → Dp K H v d
  | .none, _, _, h => by cases h; exact .non
  | .bool b, _, _, h => by cases h; exact .bl b
  | .int b, _, _, h => by cases h; exact .int b
  | .str b, _, _, h => by cases h; exact .str b
  | .dict b, _, n, h => by rw [PyData.hasDict] at n; cases n
  | .list ds, _, n, h => by
    rw [PyData.hasDict] at n
    cases h with
    | lst a _ b => exact .lst (SqL.of a) (DqAll.dp ds _ n b)
  | .tuple ds, _, n, h => by
    rw [PyData.hasDict] at n
    cases h with
    | tup a b => exact .tup (SqT.of a) (DqAll.dp ds _ n b)
theorem DqAll.dp {K : PySem.W.Frag} {H : Hp} : ∀ (ds : List PyData) (vs : List V), PyData.hasDictAll ds = false → DqAll K H vs ds → DpAll K H vs ds
  | [], _, _, h => by cases h; exact .nil
  | d :: ds, _, n, h => by
    rw [PyData.hasDictAll, Bool.or_eq_false_iff] at n
    cases h with
    | cons a b => exact .cons (Dq.dp d _ n.1 a) (DqAll.dp ds _ n.2 b)
end
section
variable {X : Cx} {pins : List (Addr × Obj)} {σ : L2.St} {s : Shared}
mutual
theorem Dq.reads (S : SysD X.K) (I : Inv X pins σ H s) : ∀ (d : PyData) (v : V) (u : Value), Dq X.K H v d → RelV v u → ∃ as, Reads s.heap u d as ∧ sysModules ∉ as
  | .none, _, _, h, r => by
    cases h; cases r
    exact ⟨_, Reads.none, List.not_mem_nil⟩
  | .bool b, _, _, h, r => by
    cases h; cases r
    exact ⟨_, Reads.bool b, List.not_mem_nil⟩
  | .int b, _, _, h, r => by
    cases h
    obtain ⟨t, rfl⟩ := r
    exact ⟨_, Reads.int b t, List.not_mem_nil⟩
  | .str b, _, _, h, r => by
    cases h
    obtain ⟨t, rfl⟩ := r
    exact ⟨_, Reads.str b t, List.not_mem_nil⟩
  | .list ds, _, _, h, r => by
    cases h with
    | lst hs _ ha =>
      cases r
      obtain ⟨its, rv, ⟨o, n, ho, hc, _, hd⟩, _⟩ := I.list (SqL.of hs)
      obtain ⟨as, hr, hn⟩ := DqAll.reads S I ds _ its ha rv
      refine ⟨_, Reads.list ho hc hd hr, fun z => ?_⟩
      rcases List.mem_cons.mp z with z | z
      · obtain ⟨o', k1, k2⟩ := S
        have e := I.kIn _ _ k1
        rw [z, ho] at e
        cases e
        exact absurd (Value.type.inj (hc.symm.trans k2)) (by decide)
      · exact hn z
  | .tuple ds, _, _, h, r => by
    cases h with
    | tup hs ha =>
      cases r
      obtain ⟨its, rv, ⟨o, ho, hc, n, hd⟩, _⟩ := I.tuple (SqT.of hs)
      obtain ⟨as, hr, hn⟩ := DqAll.reads S I ds _ its ha rv
      exact ⟨_, Reads.tuple ho hc hd hr, hn⟩
  | .dict ds, _, _, h, r => by
    cases h with
    | dic ha =>
      cases r
      obtain ⟨_, hne, vs, hkv, o, es, ep, h1, h2, h3, h4, h5, h6⟩ := dk_of I.hok ha
      cases hkv
      have e0 : es.toList = [] := by
        cases q : es.toList with
        | nil => rfl
        | cons x xs => rw [q] at h5; cases h5
      refine ⟨_, Reads.dict (es := es) (kvs := []) (as := []) (bs := []) h1 h2.1 h3 (by rw [e0]; exact ReadsAll.nil) (by rw [e0]; exact ReadsAll.nil), fun z => ?_⟩
      have z' : sysModules = _ := List.mem_singleton.mp (by simpa using z)
      rw [z'] at hne
      simp at hne
theorem DqAll.reads (S : SysD X.K) (I : Inv X pins σ H s) : ∀ (ds : List PyData) (vs : List V) (us : List Value), DqAll X.K H vs ds → Vals vs us → ∃ as, ReadsAll s.heap us ds as ∧ sysModules ∉ as
  | [], _, _, h, r => by
    cases h; cases r
    exact ⟨_, ReadsAll.nil, List.not_mem_nil⟩
  | d :: ds, _, _, h, r => by
    cases h with
    | cons h1 h2 =>
      cases r with
      | cons r1 r2 =>
        obtain ⟨as, q1, n1⟩ := Dq.reads S I d _ _ h1 r1
        obtain ⟨bs, q2, n2⟩ := DqAll.reads S I ds _ _ h2 r2
        refine ⟨_, ReadsAll.cons q1 q2, fun z => ?_⟩
        rcases List.mem_append.mp z with z | z
        · exact n1 z
        · exact n2 z
end
end
/-! ### sizes -/
mutual
def wt : PyData → Nat
  | .none | .bool _ | .int _ => 12
  | .str s => 10 * s.length + 12
  | .list ds | .tuple ds => 3 + wtAll ds
  | .dict _ => 12
def wtAll : List PyData → Nat
  | [] => 0
  | d :: ds => 2 + wt d + wtAll ds
end
theorem wtAll_append : ∀ ds es : List PyData, wtAll (ds ++ es) = wtAll ds + wtAll es
  | [], es => by rw [List.nil_append, wtAll, Nat.zero_add]
  | d :: ds, es => by rw [List.cons_append, wtAll, wtAll, wtAll_append ds es]; omega
theorem depthAll_append : ∀ ds es : List PyData, PyData.depthAll (ds ++ es) = max (PyData.depthAll ds) (PyData.depthAll es)
  | [], es => by rw [List.nil_append, PyData.depthAll, Nat.zero_max]
  | d :: ds, es => by rw [List.cons_append, PyData.depthAll, PyData.depthAll, depthAll_append ds es, Nat.max_assoc]
mutual
theorem Dq.size {K : PySem.W.Frag} {H : Hp} : ∀ (d : PyData) (v : V), Dq K H v d → d.showable = true ∧ d.shown.length ≤ wt d
  | .none, _, _ => ⟨rfl, Nat.le_trans Fit.non.sz (by rw [wt]; decide)⟩
  | .bool b, _, _ => ⟨rfl, Nat.le_trans (Fit.bl b).sz (by rw [wt]; decide)⟩
  | .int i, _, h => by
    cases h with
    | int _ h =>
      have := Fit.int (i := i) (k := 10) (by decide) (by decide) h
      exact ⟨this.s, Nat.le_trans this.sz (by rw [wt]; decide)⟩
  | .str s, _, h => by
    cases h with
    | str _ h =>
      obtain ⟨h1, h2⟩ := Bool.and_eq_true_iff.mp h
      have h3 : ∀ c ∈ s.cps.toList, c < 0x110000 := fun c hc => by
        have := List.all_eq_true.mp (show s.cps.toList.all (· < 0x110000) = true by rw [Array.all_toList]; exact h2) c hc
        exact of_decide_eq_true this
      have := Fit.str (x := s) (n := s.length) (Nat.le_refl _) h3
      refine ⟨rfl, Nat.le_trans this.sz ?_⟩
      rw [wt]; omega
  | .dict b, _, h => by
    cases h with
    | dic a => exact ⟨rfl, by rw [wt]; unfold PyData.shown; decide +kernel⟩
  | .list ds, _, h => by
    cases h with
    | lst a _ b =>
      obtain ⟨h1, h2, h3⟩ := DqAll.size ds _ b
      refine ⟨by rw [PyData.showable, h1], ?_⟩
      rw [PyData.shown, wt]
      have := listText_len_le (PyData.shownAll ds)
      omega
  | .tuple ds, _, h => by
    cases h with
    | tup a b =>
      obtain ⟨h1, h2, h3⟩ := DqAll.size ds _ b
      refine ⟨by rw [PyData.showable, h1], ?_⟩
      rw [PyData.shown, wt]
      have := tupleText_len_le (PyData.shownAll ds)
      omega
theorem DqAll.size {K : PySem.W.Frag} {H : Hp} : ∀ (ds : List PyData) (vs : List V), DqAll K H vs ds → PyData.showableAll ds = true ∧ ((PyData.shownAll ds).map (·.length)).sum + 2 * (PyData.shownAll ds).length ≤ wtAll ds ∧ True
  | [], _, _ => ⟨rfl, by rw [PyData.shownAll, wtAll]; decide, trivial⟩
  | d :: ds, _, h => by
    cases h with
    | cons a b =>
      obtain ⟨x1, x2⟩ := Dq.size d _ a
      obtain ⟨h1, h2, _⟩ := DqAll.size ds _ b
      refine ⟨by rw [PyData.showableAll, x1, h1]; rfl, ?_, trivial⟩
      rw [PyData.shownAll, wtAll, List.map_cons, List.sum_cons, List.length_cons]
      omega
end
/-! ### repr -/
def rReprQ (K : PySem.W.Frag) : List V → Hp → VK → Prop := fun xs H Q => ∃ (x : V) (d : PyData), xs = [x] ∧ Dq K H x d ∧ d.depth ≤ 50 ∧ wt d ≤ 1000000 ∧ Q (.str d.shown) H
theorem call_reprQ {X : Cx} {K : PySem.W.Frag} (hK : X.K = K) (S : SysD K) (hG : X.A.guards = some []) (hu : X.A.units + 64 < cLine) : CallR X (.builtin "repr") (rReprQ K) := by
  subst hK
  intro pins s σ H xs us Q I rv h
  obtain ⟨x, d, rfl, hd, hdp, hw, q⟩ := h
  obtain ⟨hs, hz'⟩ := hd.size
  have hz : d.shown.length ≤ sizeLine := Nat.le_trans (Nat.le_trans hz' hw) (by rw [sizeLine_eq]; decide)
  cases rv with
  | cons rx rn =>
    cases rn
    have fin : ∀ (tk : Nat) (u : Tok), EP X pins σ Q (.str d.shown u) { s with toks := tk } := fun tk u => ⟨.str d.shown, H, I.tok _, ⟨u, rfl⟩, q⟩
    obtain ⟨as, rd, hn⟩ := Dq.reads S I d x _ hd rx
    cases hd with
    | non => cases rx; exact PySem.P.repr_of_none (fin _ _)
    | bl b => cases rx; cases b <;> exact PySem.P.repr_of_bool (fin _ _)
    | int i _ =>
      obtain ⟨t, rfl⟩ := rx
      rw [PyData.showable] at hs
      exact PySem.P.repr_of_int (of_decide_eq_true hs) (fin _ _)
    | str y _ => obtain ⟨t, rfl⟩ := rx; exact PySem.P.repr_of_str (fin _ _) hz
    | lst ha _ hb =>
      cases rx
      exact repr_of_reads' rd hs (fun _ => hn) hG (by omega) (fun _ _ z => z) (fun h' u tk hk => ⟨.str _, H, I.kept (t' := tk) hk, ⟨u, rfl⟩, q⟩) hz
    | tup ha hb =>
      cases rx
      exact repr_of_reads' rd hs (fun _ => hn) hG (by omega) (fun _ _ z => z) (fun h' u tk hk => ⟨.str _, H, I.kept (t' := tk) hk, ⟨u, rfl⟩, q⟩) hz
    | dic ha =>
      cases rx
      exact repr_of_reads' rd hs (fun _ => hn) hG (by omega) (fun _ _ z => z) (fun h' u tk hk => ⟨.str _, H, I.kept (t' := tk) hk, ⟨u, rfl⟩, q⟩) hz
/-! ### a tuple beside the empty one -/
def rEqE (K : PySem.W.Frag) : R2 := fun x y H Q => ∃ (a b : Addr) (xs : List V), x = .ref a ∧ y = .ref b ∧ SqT K H a xs ∧ SqT K H b [] ∧ Q (.bl (decide (xs = []))) H
theorem op_eqE {X : Cx} (hu : X.A.units + 64 < cLine) : OpR X (compareOp .Eq) (rEqE X.K) := by
  intro pins s σ H x y v u Q I rx ry h
  obtain ⟨a, b, xs, rfl, rfl, ha, hb, q⟩ := h
  cases rx
  cases ry
  obtain ⟨its, rv, tu, _⟩ := I.tuple ha
  obtain ⟨its2, rv2, tu2, _⟩ := I.tuple hb
  cases rv2
  refine SeqAt.eq_tupleAt (e := fun _ => true) tu tu2 (by omega) (fun j _ h2 => (Nat.not_lt_zero _ h2).elim) ?_
  refine ⟨.bl (decide (xs = [])), H, I, ?_, q⟩
  show Value.bool _ = Value.bool _
  congr 1
  have hl := rv.length
  cases xs with
  | nil =>
    cases rv
    rfl
  | cons a r =>
    cases its with
    | nil => cases rv
    | cons b t => simp
def rNeE (K : PySem.W.Frag) : R2 := fun x y H Q => ∃ (a b : Addr) (xs : List V), x = .ref a ∧ y = .ref b ∧ SqT K H a xs ∧ SqT K H b [] ∧ Q (.bl (!decide (xs = []))) H
theorem op_neE {X : Cx} (hu : X.A.units + 64 < cLine) : OpR X (compareOp .NotEq) (rNeE X.K) := by
  intro pins s σ H x y v u Q I rx ry h
  obtain ⟨a, b, xs, rfl, rfl, ha, hb, q⟩ := h
  cases rx
  cases ry
  obtain ⟨its, rv, tu, _⟩ := I.tuple ha
  obtain ⟨its2, rv2, tu2, _⟩ := I.tuple hb
  cases rv2
  refine SeqAt.RcNeAt.tuples (e := fun _ => true) tu tu2 (by omega) (fun j _ h2 => (Nat.not_lt_zero _ h2).elim) X.prog X.w _ _ ?_
  refine ⟨.bl (!decide (xs = [])), H, I, ?_, q⟩
  show Value.bool _ = Value.bool _
  congr 1
  have hl := rv.length
  cases xs with
  | nil =>
    cases rv
    rfl
  | cons a r =>
    cases its with
    | nil => cases rv
    | cons b t => simp
/-! ### x in a tuple of data -/
def rInT (K : PySem.W.Frag) : R2 := fun x y H Q => ∃ d ds, Dp K H x d ∧ Dp K H y (.tuple ds) ∧ SeqAt.shaped d = true ∧ SeqAt.shaped (.tuple ds) = true ∧ Q (.bl (ds.any fun z => PyData.eqv z d)) H
def rNotInT (K : PySem.W.Frag) : R2 := fun x y H Q => ∃ d ds, Dp K H x d ∧ Dp K H y (.tuple ds) ∧ SeqAt.shaped d = true ∧ SeqAt.shaped (.tuple ds) = true ∧ Q (.bl (!ds.any fun z => PyData.eqv z d)) H
theorem op_inT {X : Cx} (hu : X.A.units + 65 < cLine) : OpR X (compareOp .In) (rInT X.K) := by
  intro pins s σ H x y v u Q I rx ry h
  obtain ⟨d, ds, hd, he, sd, se, q⟩ := h
  obtain ⟨as, r1⟩ := Dp.reads I d x v hd rx
  obtain ⟨bs, r2⟩ := Dp.reads I (.tuple ds) y u he ry
  exact SeqAt.in_tuple_reads r2 r1 (SeqAt.canLay_of_shaped se) (SeqAt.canLay_of_shaped sd) (room_in_shaped sd hu) ⟨.bl _, H, I, rfl, q⟩
theorem op_notInT {X : Cx} (hu : X.A.units + 65 < cLine) : OpR X (compareOp .NotIn) (rNotInT X.K) := by
  intro pins s σ H x y v u Q I rx ry h
  obtain ⟨d, ds, hd, he, sd, se, q⟩ := h
  obtain ⟨as, r1⟩ := Dp.reads I d x v hd rx
  obtain ⟨bs, r2⟩ := Dp.reads I (.tuple ds) y u he ry
  exact SeqAt.notIn_tuple_reads r2 r1 (SeqAt.canLay_of_shaped se) (SeqAt.canLay_of_shaped sd) (room_in_shaped sd hu) ⟨.bl _, H, I, rfl, q⟩
end Dq

set_option Elab.async false
set_option linter.all false
set_option maxRecDepth 100000
set_option maxHeartbeats 2000000
/-! one of a row: of a list, a tuple, a text -/
namespace Pk
open PySem PySem.Spec PyProof.Rows L2 Rd
def rIxO (r r' : R2) : R2 := fun x y H Q => r x y H Q ∨ r' x y H Q
theorem IxR_or {X : Cx} {r r' : R2} (h : IxR X r) (h' : IxR X r') : IxR X (rIxO r r') := by
  intro value slice pins s σ H x y v u Q I rx ry q hs
  rcases q with q | q
  · exact h value slice pins s σ H x y v u Q I rx ry q hs
  · exact h' value slice pins s σ H x y v u Q I rx ry q hs
/-- the signs of a text, the items of a row -/
inductive Row (H : Hp) : V → List V → Prop
  | lst {a : Addr} {xs : List V} : H a = some (.lst xs) → Row H (.ref a) xs
  | tup {a : Addr} {xs : List V} : H a = some (.tup xs) → Row H (.ref a) xs
  | str (z : Str) (h : z.length ≤ sizeLine) : Row H (.str z) (z.cps.toList.map fun c => V.str ⟨#[c]⟩)
theorem Row.but {H H' : Hp} {u : Addr} {x : V} {xs : List V} (h : Row H x xs) (hb : But u H H') (hu : x ≠ .ref u) : Row H' x xs := by
  cases h with
  | lst e => exact .lst (hb _ _ (fun z => hu (by rw [z])) e)
  | tup e => exact .tup (hb _ _ (fun z => hu (by rw [z])) e)
  | str z h => exact .str z h
def rIxR : R2 := fun x y H Q => ∃ xs i v, Row H x xs ∧ y = .int i ∧ 0 ≤ i ∧ i < 2 ^ 60 ∧ xs[i.toNat]? = some v ∧ Q v H
theorem ix_row {X : Cx} : IxR X rIxR := by
  intro value slice pins s σ H x y v u Q I rx ry h hs
  obtain ⟨xs, i, z, hR, rfl, h0, h6, hz, q⟩ := h
  cases hR with
  | lst e => exact ix_list value slice pins s σ H _ _ v u Q I rx ry ⟨_, _, _, _, rfl, rfl, SqL.of e, atI_nn h0 hz, q⟩ hs
  | tup e => exact ix_tup value slice pins s σ H _ _ v u Q I rx ry ⟨_, _, _, _, rfl, rfl, SqT.of e, atI_nn h0 hz, q⟩ hs
  | str t ht =>
    rw [List.getElem?_map] at hz
    obtain ⟨c, hc, rfl⟩ := Option.map_eq_some_iff.mp hz
    have hl : i.toNat < t.cps.toList.length := (List.getElem?_eq_some_iff.mp hc).1
    exact ix_str value slice pins s σ H _ _ v u Q I rx ry ⟨_, _, _, rfl, rfl, ht, atI_nn h0 hc, q⟩ hs
def rLenR : List V → Hp → VK → Prop := fun vs H Q => ∃ x xs, vs = [x] ∧ Row H x xs ∧ Q (.int (xs.length : Nat)) H
theorem call_lenR {X : Cx} : CallR X (.builtin "len") rLenR := by
  intro pins s σ H vs us Q I r h
  obtain ⟨x, xs, rfl, hR, q⟩ := h
  cases hR with
  | lst e => exact call_len_seq pins s σ H _ us Q I r ⟨_, _, rfl, .inl (SqL.of e), q⟩
  | tup e => exact call_len_seq pins s σ H _ us Q I r ⟨_, _, rfl, .inr (SqT.of e), q⟩
  | str t ht => exact call_len_str pins s σ H _ us Q I r ⟨t, rfl, ht, by rw [List.length_map, Array.length_toList] at q; exact q⟩
theorem vals_at : ∀ (ys : List V) (us : List Value), ys.length = us.length → (∀ (j : Nat) (v : V) (u : Value), ys[j]? = some v → us[j]? = some u → RelV v u) → Vals ys us
  | [], [], _, _ => .nil
  | [], _ :: _, h, _ => nomatch h
  | _ :: _, [], h, _ => nomatch h
  | y :: ys, u :: us, h, g => .cons (g 0 _ _ rfl rfl) (vals_at ys us (Nat.succ.inj h) fun j v u a b => g (j + 1) v u a b)
def rSigns : List V → Hp → VK → Prop := fun xs H Q => ∃ z : Str, xs = [.str z] ∧ z.length ≤ sizeLine ∧ ∀ l, H l = none → Q (.ref l) (upd H l (.lst (z.cps.toList.map fun c => V.str ⟨#[c]⟩)))
/-- list(a text) -/
theorem call_list_signs {X : Cx} (hh : X.A.handled = none) : CallR X (.type "list") rSigns := by
  intro pins s σ H xs us Q I r h
  obtain ⟨z, rfl, hz, q⟩ := h
  obtain ⟨u, rfl, rx⟩ := vals1 r
  obtain ⟨t, rfl⟩ := rx
  refine PySem.call_list_str hh z t (hn := hz) fun h' tk acc' c' hk hS' hacc => ?_
  have hv : Vals (z.cps.toList.map fun c => V.str ⟨#[c]⟩) acc'.toList := by
    refine vals_at _ _ ?_ fun j v u hj hu => ?_
    · rw [List.length_map, Array.length_toList, Array.length_toList]; exact hacc.1.symm
    · obtain ⟨c, k, hc, rfl⟩ := hacc.2 j u (by simpa using hu)
      rw [List.getElem?_map, Array.getElem?_toList, hc] at hj
      cases hj
      exact ⟨k, rfl⟩
  exact ⟨.ref s.heap.objs.size, _, I.laid (t' := tk) hk (Nat.le_refl _) (show ObjOk X.prog X.w _ h' _ (.lst (z.cps.toList.map fun c => V.str ⟨#[c]⟩)) from ⟨by rw [List.length_map, Array.length_toList]; exact hz, acc'.toList, c', hv, by simpa using hS'⟩), rfl, q _ (I.hok.fresh (Nat.le_refl _))⟩
/-- a tuple as a comprehension's target -/
theorem pg_tupK {X : Cx} {K : PySem.W.Frag} {es : List Expr} {k : Nat} {pos : Pos} {t : TGs} {n : Nat} (hK : X.K = K) (hc : X.calm = true) (h : PGs X es t)
    (hn : (assignEach es X.env).length = n) (hst : (assignEach es X.env).findIdx? (·.1) = none) : PG X (.Tuple es k pos) (gTup K n t) := by
  subst hK
  exact pg_tup hc h hn hst
end Pk

set_option Elab.async false
set_option linter.all false
set_option maxRecDepth 100000
set_option maxHeartbeats 4000000
namespace K10
open PySem PySem.Spec PyProof.Rows L2 Rd Dt Dq Pk
local macro_rules | `(tactic| walk_at "rd") => `(tactic| try simp only [tVar_, tC_, tOp_, tUn_, rI_, rI0_, rU_, eq_ii, ne_ii, eq_ss, ne_ss, eq_bb, ne_bb, tAndV_, tOrV_, tNotV_, tIf_, tTest_, tB_, tAnd_, tOr_, tNot_, tChain_, tNil_, tCons_, tTup_, tLst_, tCB_, tCall_, tSeq_, tNext_, tRet_, tRetN_, tDrop_, tBreak_, tNever_, tIfS_, tAsg_, gName_, gTup_, gCons_, gNil_, gSub_, tPar_, tPar3_, tSl_, tNoPart_, tPart_, tBM_, tFor_range1, tFor_range2, tFor_list, tFor_tup,
  L2.start, List.map_cons, List.map_nil, List.length_cons, List.length_nil, List.replicate, List.append_nil, List.nil_append, List.cons_append, List.getElem?_cons_zero, List.getElem?_cons_succ, List.set_cons_zero, List.set_cons_succ, Option.some.injEq, V.int.injEq, V.bl.injEq, V.str.injEq, V.ref.injEq, exists_eq_left, exists_eq_left', exists_eq_right, exists_eq, exists_and_left, and_true, true_and, decide_eq_true_eq, Nat.reduceAdd, Nat.reduceSub, Nat.add_zero, Nat.zero_add, List.cons.injEq, Bool.not_eq_true', decide_eq_false_iff_not, eq_self, reduceCtorEq, Bool.false_eq_true, if_true, if_false, ite_true, ite_false, and_self, tLc_range1, tLc_range2, tLc_list, tLc_tup, tYes_, wipe0, wipe1, tCallS_, rIxL_, rIxT_, rSlL_, rCat_, rSetL_, rRep_, rGcd_, tCallK_, gUnl_, tRaise_, decide_true, decide_false, not_true_eq_false, not_false_eq_true, false_and, or_false, false_or, and_false, and_assoc, exists_const, forall_const, forall_eq'])

def top (i : Nat) : Stmt := PySem.Challenge.pw_arrowcells_k10_orders_of_plans.main.body.getD i (.Pass ⟨0, 0, 0, 0⟩)
structure Tx (mg : Str → Option Value) : Prop where
  b_len : mg "len" = none
  b_int : mg "int" = none
  b_isinstance : mg "isinstance" = none
  b_abs : mg "abs" = none
  b_divmod : mg "divmod" = none
  b_range : mg "range" = none
  b_max : mg "max" = none
  b_min : mg "min" = none
  b_repr : mg "repr" = none
  b_all : mg "all" = none
  b_list : mg "list" = none
  b_tuple : mg "tuple" = none
  b_str : mg "str" = none
  b_bool : mg "bool" = none
  b_dict : mg "dict" = none
  b_enumerate : mg "enumerate" = none
  b_sorted : mg "sorted" = none
  lets : ∃ t, mg "LETTERS" = some (.str "abcdefghijklmnopqrstuvwxyz" t)
  mn : ∃ t, mg "MOST_NAMES" = some (.int 4 t)
  figs : ∃ t, mg "FIGURES" = some (.str "0123456789" t)
  far : ∃ t, mg "FAR" = some (.int 1000000000000000000000000000000 t)
  b_sum : mg "sum" = none
  b_set : mg "set" = none
  b_any : mg "any" = none
abbrev abc : Str := "abcdefghijklmnopqrstuvwxyz"
abbrev fig : Str := "0123456789"
abbrev FD (K : PySem.W.Frag) (x : Str) (st : Stmt) (f : Addr) (fd : FuncData) : Prop := FunD K x x (defArgs st) (defBody st) (defScope st) [] [] f fd
abbrev KW (K : PySem.W.Frag) (fd : FuncData) (ps : List Str) : Prop := KBn K fd ps 0 ps (fun _ ws => ws) (fun _ zs => zs)
section
variable {P : Program} {w : World} {K : PySem.W.Frag} {mg : Str → Option Value} {base : Heap}
def WellAt (H : Hp) (u : Addr) : Prop := ∃ a b c : Int, H u = some (.lst [.int a, .int b, .int c]) ∧ 0 ≤ b ∧ b < 2147483648
theorem WellAt.but {H H' : Hp} {u : Addr} (h : WellAt H u) (s : Same H H') : WellAt H' u := by
  obtain ⟨a, b, c, e, q⟩ := h
  exact ⟨a, b, c, s _ _ e, q⟩
def spTake : Sp := fun vs H Q _ => ∃ (u : Addr) (n : Int), vs = [.ref u, .int n] ∧ WellAt H u ∧ 1 ≤ n ∧ n < 1073741824 ∧ ∀ (d : Int) (H' : Hp), But u H H' → WellAt H' u → 0 ≤ d → d < n → Q (.int d) H'
theorem sc_take : FnScope ["_law_jug_here", "_law_many", "_law_figure"] ["_law_jug_here", "_law_many"] (defScope (top 31)) := ⟨rfl, rfl, rfl, by decide +kernel, rfl, by decide +kernel, by decide +kernel⟩
theorem ok_take {f : Addr} {fd : FuncData} (T : Tx mg) (F : FD K "_law_take" (top 31) f fd) : FnOk P w K mg base CX0 1 f fd ["_law_jug_here", "_law_many"] spTake := by
  refine F.ok sc_take (fun vs H Q E h => ?_) (fun cdv A outer s H vs Q E hr h => ?_)
  · obtain ⟨_, _, rfl, _⟩ := h
    rfl
  · obtain ⟨u, n, rfl, ⟨a, b, c, hu, hb0, hb1⟩, n1, n2, k⟩ := h
    have nd := sc_take.nd
    refine ⟨_, (pss_cons (ps_if (pt_cmpR op_gt (pe_ix (r := rIxL K) ix_list (pv 0) pe_int (fun _ _ => rfl)) pe_int (nomark _)) (pss_cons (ps_asg (pe_callB call_divmodW (by rfl) T.b_divmod (by decide +kernel) (pa_cons (pe_ix (r := rIxL K) ix_list (pv 0) pe_int (fun _ _ => rfl)) (pa_cons (pv 1) pa_nil))) (pg_tup rfl (pgs_cons (pg_sub (pv 0) pe_int set_list) (pgs_cons (pg_name (i := 2) nd rfl (Or.inl rfl) (hf := Or.inr rfl)) pgs_nil))))
        (pss_one (ps_ret (pv 2)))) pss_nil)
        (pss_cons (ps_asg (pe_op op_add (pe_ix (r := rIxL K) ix_list (pv 0) pe_int (fun _ _ => rfl)) pe_int) (pg_sub (pv 0) pe_int set_list))
        (pss_cons (ps_asg (pe_op op_mod (pe_callTy call_int1 (by rfl) T.b_int (by decide +kernel) (pa_cons (pe_op op_add (pe_op op_add (pe_op op_mul (pe_ix (r := rIxL K) ix_list (pv 0) pe_int (fun _ _ => rfl)) (pe_op op_add pe_int (pe_op op_mul pe_int (pe_ix (r := rIxL K) ix_list (pv 0) pe_int (fun _ _ => rfl))))) pe_int) (pe_ix (r := rIxL K) ix_list (pv 0) pe_int (fun _ _ => rfl))) pa_nil)) pe_int) (pg_sub (pv 0) pe_int set_list))
        (pss_one (ps_ret (pe_op op_mod (pe_callTy call_int1 (by rfl) T.b_int (by decide +kernel) (pa_cons (pe_op op_fdiv (pe_ix (r := rIxL K) ix_list (pv 0) pe_int (fun _ _ => rfl)) pe_int) pa_nil)) (pv 1))))))), ?_⟩
    refine sq fun U hU => ?_
    walk_at "rd"
    refine ⟨_, SqL.of hu, _, atI_nn (by decide) rfl, a, rfl, ?_⟩
    by_cases c0 : 0 < a
    · rw [if_pos c0]
      refine ⟨_, SqL.of hu, _, atI_nn (by decide) rfl, a, rfl, ⟨by omega, PyProof.noPylong_small (by omega)⟩, fun p hp => ?_⟩
      have hup : u ≠ p := ne_of_none hu hp
      refine ⟨_, SqT.of upd_same, rfl, _, _, rfl, _, (by rw [upd_ne hup]; exact hu), 0, rfl, _, _, rfl, rfl, ?_⟩
      refine k _ _ (fun b' o hb e => ?_) ⟨_, _, _, upd_same, hb0, hb1⟩ (Int.emod_nonneg a (by omega)) (Int.emod_lt_of_pos a (by omega))
      rw [upd_ne hb, upd_ne (ne_of_none e hp)]; exact e
    rw [if_neg c0]
    refine hU _ _ ?_
    clear hU
    refine sq fun U hU => ?_
    walk_at "rd"
    refine ⟨_, SqL.of hu, _, atI_nn (by decide) rfl, c, rfl, _, hu, 2, rfl, hU _ _ ?_⟩
    clear hU
    have h1 : (upd H u (.lst ([V.int a, V.int b, V.int c].set 2 (V.int (c + 1))))) u = some (.lst [.int a, .int b, .int (c + 1)]) := upd_same
    generalize eH : upd H u (.lst ([V.int a, V.int b, V.int c].set 2 (V.int (c + 1)))) = H1 at h1 ⊢
    have s1 : But u H H1 := by rw [← eH]; exact But.put
    refine sq fun U hU => ?_
    walk_at "rd"
    refine ⟨_, SqL.of h1, _, atI_nn (by decide) rfl, _, SqL.of h1, _, atI_nn (by decide) rfl, c + 1, rfl, .inl ⟨by decide, by decide⟩, b, rfl, .inl ⟨by omega, by omega⟩, _, SqL.of h1, _, atI_nn (by decide) rfl, c + 1, rfl, by decide, _, h1, 1, rfl, hU _ _ ?_⟩
    clear hU
    have q1 := Int.emod_nonneg (b * (40014 + 2 * (c + 1)) + 12211 + (c + 1)) (show (2147483563 : Int) ≠ 0 by decide)
    have q2 := Int.emod_lt_of_pos (b * (40014 + 2 * (c + 1)) + 12211 + (c + 1)) (show (0 : Int) < 2147483563 by decide)
    generalize (b * (40014 + 2 * (c + 1)) + 12211 + (c + 1)) % 2147483563 = b2 at q1 q2 ⊢
    have h2 : (upd H1 u (.lst ([V.int a, V.int b, V.int (c + 1)].set 1 (V.int b2)))) u = some (.lst [.int a, .int b2, .int (c + 1)]) := upd_same
    walk_at "rd"
    refine ⟨_, SqL.of h2, _, atI_nn (by decide) rfl, b2, rfl, ⟨by decide, by decide⟩, by omega, ?_⟩
    exact k _ _ (s1.trans But.put) ⟨_, _, _, h2, q1, by omega⟩ (Int.emod_nonneg _ (by omega)) (Int.emod_lt_of_pos _ (by omega))
theorem sc_jug : FnScope ["_law_script", "_law_turn", "_law_seed", "_law_each", "_law_cell", "_law_great"] ["_law_script", "_law_turn"] (defScope (top 30)) := ⟨rfl, rfl, rfl, by decide +kernel, rfl, by decide +kernel, by decide +kernel⟩
def spJug (K : PySem.W.Frag) : Sp := fun vs H Q _ => ∃ (a : Addr) (ns : List Int) (t : Int), vs = [.ref a, .int t] ∧ SqL K H a (ns.map V.int) ∧ ns.length ≤ 63 ∧ 0 ≤ t ∧ t ≤ 5 ∧ ∀ (u : Addr) (H' : Hp), Same H H' → H u = none → WellAt H' u → Q (.ref u) H'
def wlP (a : Addr) (t : Int) (K : PySem.W.Frag) (ns : List Int) (H : Hp) (i : Nat) : L2.St → Hp → Prop := fun σ H' => Same H H' ∧ ∃ (b : Int) (x y z : Option V), σ = [some (.ref a), some (V.int t), some (V.int b), x, y, z]
theorem ok_jug {f : Addr} {fd : FuncData} (T : Tx mg) (F : FD K "_law_jug" (top 30) f fd) : FnOk P w K mg base CX0 1 f fd ["_law_script", "_law_turn"] (spJug K) := by
  refine F.ok sc_jug (fun vs H Q E h => ?_) (fun cdv A outer s H vs Q E hr h => ?_)
  · obtain ⟨_, _, _, rfl, _⟩ := h
    rfl
  · obtain ⟨a, ns, t, rfl, hS, hn, t0, t1, k⟩ := h
    have nd := sc_jug.nd
    refine ⟨_, (pss_cons (ps_set (i := 2) nd rfl (Or.inl rfl) (pe_op op_add pe_int (pe_op op_mul pe_int (pv 1))))
        (pss_cons (ps_for (passes_of rfl) rfl (pi_list (pe_slice (r := rSlL K) sl_list (pv 0) po_none (po_some pe_int))) (pg_name (i := 3) nd rfl (Or.inl rfl)) (pss_one (ps_set (i := 2) nd rfl (Or.inl rfl) (pe_op op_mod (pe_callTy call_int1 (by rfl) T.b_int (by decide +kernel) (pa_cons (pe_op op_add (pe_op op_add (pe_op op_mul (pv 2) pe_int) (pe_op op_mul (pe_op op_mod (pe_callTy call_int1 (by rfl) T.b_int (by decide +kernel) (pa_cons (pv 3) pa_nil)) pe_int) pe_int)) pe_int) pa_nil)) pe_int))))
        (pss_cons (ps_set (i := 4) nd rfl (Or.inl rfl) (pe_ifExp (pt_cmpR op_lt (pv 1) (pe_callB call_len_seq (by rfl) T.b_len PySem.boot_len (pa_cons (pv 0) pa_nil)) (nomark _)) (pe_callTy call_int1 (by rfl) T.b_int (by decide +kernel) (pa_cons (pe_ix (r := rIxL K) ix_list (pv 0) (pv 1) (fun _ _ => rfl)) pa_nil)) (pv 2)))
        (pss_cons (ps_set (i := 5) nd rfl (Or.inl rfl) (pe_ifExp (pt_cmpR op_ge (pe_callB call_abs (by rfl) T.b_abs (by decide +kernel) (pa_cons (pv 4) pa_nil)) (pe_op op_pow pe_int pe_int) (nomark _)) (pe_callB call_abs (by rfl) T.b_abs (by decide +kernel) (pa_cons (pv 4) pa_nil)) pe_int))
        (pss_one (ps_ret (pe_lst (pa_cons (pv 5) (pa_cons (pe_op op_mod (pe_callTy call_int1 (by rfl) T.b_int (by decide +kernel) (pa_cons (pe_op op_add (pe_op op_add (pe_op op_mul (pv 2) pe_int) (pe_op op_mul (pe_op op_mod (pe_callTy call_int1 (by rfl) T.b_int (by decide +kernel) (pa_cons (pv 4) pa_nil)) pe_int) pe_int)) pe_int) pa_nil)) pe_int) (pa_cons pe_int pa_nil)))))))))), ?_⟩
    refine sq fun U hU => ?_
    walk_at "rd"
    refine ⟨.inl ⟨by decide, by decide⟩, hU _ _ ?_⟩
    clear hU
    refine sq fun U hU => ?_
    walk_at "rd"
    refine ⟨_, hS, fun p hp => ⟨⟨_, SqL.of upd_same⟩, ?_⟩⟩
    refine for_l (K := K) (a := p) (xs := cutV (ns.map V.int) none (some 8)) (fun i => fun σ H' => H' p = some (.lst (cutV (ns.map V.int) none (some 8))) ∧ wlP a t K ns H i σ H') ⟨upd_same, same_new hp, _, none, none, none, rfl⟩ (fun i σ H' _ h => SqL.of h.1) ?_ ?_
    · rintro i x σ H' hi ⟨hp', hs, b, y1, y2, y3, rfl⟩
      obtain ⟨z, rfl⟩ : ∃ z, x = V.int z := by
        have hm := List.mem_of_getElem? hi
        obtain ⟨z, _, rfl⟩ := List.mem_map.mp (List.mem_of_mem_drop (List.mem_of_mem_take hm))
        exact ⟨z, rfl⟩
      walk_at "rd"
      exact ⟨.inr ⟨by decide, by decide⟩, by decide, .inr ⟨by decide, by decide⟩, by decide, hp', hs, _, _, _, _, rfl⟩
    · rintro σ H' ⟨hp', hs, b, y1, y2, y3, rfl⟩
      refine hU _ _ ?_
      clear hU
      refine sq fun U hU => ?_
      walk_at "rd"
      have go : ∀ o : Int, U [some (V.ref a), some (V.int t), some (V.int b), y1, some (V.int o), y3] H' := fun o => by
        refine hU _ _ ?_
        clear hU
        refine sq fun U hU => ?_
        walk_at "rd"
        have fin : ∀ g : Int, U [some (V.ref a), some (V.int t), some (V.int b), y1, some (V.int o), some (V.int g)] H' := fun g => by
          refine hU _ _ ?_
          clear hU
          walk_at "rd"
          refine ⟨.inr ⟨by decide, by decide⟩, by decide, .inr ⟨by decide, by decide⟩, by decide, by decide, fun q hq => ?_⟩
          refine k q _ (hs.trans (same_new hq)) (hs.free hq) ⟨_, _, _, upd_same, Int.emod_nonneg _ (by decide), Int.lt_trans (Int.emod_lt_of_pos _ (by decide)) (by decide)⟩
        refine ⟨⟨by decide, by decide, by decide⟩, ?_⟩
        by_cases c2 : (10 : Int) ^ Int.toNat 18 ≤ (if o < 0 then -o else o)
        · rw [if_pos c2]; exact fin _
        · rw [if_neg c2]; exact fin _
      refine ⟨_, .inl (hs.seq hS), ?_⟩
      rw [List.length_map]
      by_cases c : t < (ns.length : Int)
      · rw [if_pos c]
        have hx : (ns.map V.int)[t.toNat]? = some (V.int (ns[t.toNat]'(by omega))) := by rw [List.getElem?_map, List.getElem?_eq_getElem (by omega)]; rfl
        exact ⟨_, hs.seq hS, _, atI_nn t0 hx, .inl ⟨_, rfl, go _⟩⟩
      · rw [if_neg c]
        exact go _
theorem some_but {H H' : Hp} {u : Addr} {a : Addr} {o : HO} (h : H a = some o) (hb : But u H H') (n : a ≠ u) : H' a = some o := hb _ _ n h
def spPick : Sp := fun vs H Q _ => ∃ (u : Addr) (x : V) (xs : List V), vs = [.ref u, x] ∧ WellAt H u ∧ x ≠ .ref u ∧ Row H x xs ∧ 1 ≤ xs.length ∧ xs.length ≤ 1000 ∧ ∀ (y : V) (H' : Hp), But u H H' → WellAt H' u → y ∈ xs → Q y H'
theorem sc_one : FnScope ["_law_jug_here", "_law_some"] ["_law_jug_here", "_law_some"] (defScope (top 32)) := ⟨rfl, rfl, rfl, by decide +kernel, rfl, by decide +kernel, by decide +kernel⟩
theorem ok_one {f : Addr} {fd : FuncData} (T : Tx mg) (F : FD K "_law_one_of" (top 32) f fd) {f1 : Addr} {fd1 : FuncData} (C1 : Cal P w K mg base CX0 1 "_law_take" ["_law_jug_here", "_law_many"] spTake f1 fd1) : FnOk P w K mg base CX0 2 f fd ["_law_jug_here", "_law_some"] spPick := by
  obtain ⟨g_law_take, k_law_take, b_law_take, F_law_take⟩ := C1
  refine F.ok sc_one (fun vs H Q E h => ?_) (fun cdv A outer s H vs Q E hr h => ?_)
  · obtain ⟨_, _, _, rfl, _⟩ := h
    rfl
  · obtain ⟨u, x, xs, rfl, hw, hne, hR, l1, l2, k⟩ := h
    refine ⟨_, (pss_one (ps_ret (pe_ix ix_row (pv 1) (pe_call F_law_take (hr.mono (by omega)) rfl g_law_take k_law_take b_law_take .nil pass0 (pa_cons (pv 0) (pa_cons (pe_callB call_lenR (by rfl) T.b_len PySem.boot_len (pa_cons (pv 1) pa_nil)) pa_nil))) (fun _ _ => rfl)))), ?_⟩
    walk_at "rd"
    simp only [spTake]
    walk_at "rd"
    refine ⟨_, _, rfl, hR, _, rfl, hw, by omega, by omega, fun d H' hb hw' d0 d1 => ?_⟩
    obtain ⟨y, hy⟩ : ∃ y, xs[d.toNat]? = some y := ⟨_, List.getElem?_eq_getElem (by omega)⟩
    exact ⟨xs, d, y, hR.but hb hne, rfl, d0, by omega, hy, k y H' hb hw' (List.mem_of_getElem? hy)⟩
end
end K10

set_option Elab.async false
set_option linter.all false
set_option maxRecDepth 100000
set_option maxHeartbeats 2000000
/-! a head's hook that looks at the modules' table too -/
namespace Sm
open PySem PySem.Spec PyProof.Rows L2
open He in
def obsS (n : Nat) (fa : List Fa) (fn : List DefD) (ex : PySem.W.Frag → Bool) (g : Addr → Option Obj) : Ga.AlM := (obsD fa fn (frG g (sysModules :: asD g n)), ex (frG g (sysModules :: asD g n)))
open He in
def hookS (n : Nat) (fa : List Fa) (fn : List DefD) (ex : PySem.W.Frag → Bool) : PySem.W.Hook where
  α := Ga.AlM
  obs := fun s => obsS n fa fn ex s.heap.get?
  val := fun _ => (valD fn, true)
  says := fun _ h => ∃ K : PySem.W.Frag, K.In h ∧ SaysD fa fn K ∧ ex K = true
  of := fun _ _ e => ⟨_, frG_in, congrArg Prod.fst e, congrArg Prod.snd e⟩
  keeps := fun _ _ _ ⟨K, hK, c⟩ k => ⟨K, PySem.W.Frag.In.keeps hK k, c⟩
open He in
theorem obsS_eq {n : Nat} {fa : List Fa} {fn : List DefD} {ex : PySem.W.Frag → Bool} {g : Addr → Option Obj} {s : Shared} (h : ∀ a, g a = s.heap.get? a) : obsS n fa fn ex g = (hookS n fa fn ex).obs s := by
  obtain rfl : g = s.heap.get? := funext h
  rfl
def sysB (K : PySem.W.Frag) : Bool := match K.lookup sysModules with
  | some o => decide (o.cls = .type "dict")
  | none => false
theorem sysB_ok {K : PySem.W.Frag} (h : sysB K = true) : Dq.SysD K := by
  unfold sysB at h
  split at h
  · rename_i o e
    exact ⟨o, e, of_decide_eq_true h⟩
  · cases h
end Sm

set_option Elab.async false
set_option linter.all false
set_option maxRecDepth 100000
set_option maxHeartbeats 2000000
/-! fields of an instance, read and stored -/
namespace Ob
open PySem PySem.Spec PyProof.Rows L2 Rd Dt Dq Pk
section
variable {σ : L2.St} {H : Hp} {Q : VK} {D : Ends} {ta tv : TE} {K : PySem.W.Frag} {f : Str}
def FA (K : PySem.W.Frag) (H : Hp) (a : Addr) (f : Str) (v : V) : Prop := ∃ C dx fs, H a = some (.ins C dx fs) ∧ Cls K C ∧ NoAttr K C f ∧ fs.lookup f = some v
def SA (K : PySem.W.Frag) (H : Hp) (a : Addr) (f : Str) (C dx : Addr) (fs : List (Str × V)) : Prop := H a = some (.ins C dx fs) ∧ Cls K C ∧ NoAttr K C f ∧ fs.length < 1000
theorem tFld_ : tFld K ta f σ H Q = ta σ H fun x H1 => ∃ a v, x = .ref a ∧ FA K H1 a f v ∧ Q v H1 := by
  unfold tFld
  congr 1
  funext x H1
  refine propext ⟨?_, ?_⟩
  · rintro ⟨a, C, dx, fs, v, e, h1, h2, h3, h4, q⟩
    exact ⟨a, v, e, ⟨C, dx, fs, h1, h2, h3, h4⟩, q⟩
  · rintro ⟨a, v, e, ⟨C, dx, fs, h1, h2, h3, h4⟩, q⟩
    exact ⟨a, C, dx, fs, v, e, h1, h2, h3, h4, q⟩
theorem sFld_ : sFld K ta tv f D σ H = tv σ H fun y H1 => ta σ H1 fun x H2 => ∃ a C dx fs, x = .ref a ∧ SA K H2 a f C dx fs ∧ D.nx σ (upd H2 a (.ins C dx (putF f y fs))) := by
  unfold sFld
  congr 1
  funext y H1
  congr 1
  funext x H2
  refine propext ⟨?_, ?_⟩
  · rintro ⟨a, C, dx, fs, e, h1, h2, h3, h4, q⟩
    exact ⟨a, C, dx, fs, e, ⟨h1, h2, h3, h4⟩, q⟩
  · rintro ⟨a, C, dx, fs, e, ⟨h1, h2, h3, h4⟩, q⟩
    exact ⟨a, C, dx, fs, e, h1, h2, h3, h4, q⟩
end
theorem pe_fldK {X : Cx} {K : PySem.W.Frag} {e : Expr} {f : Str} {pos : Pos} {ta : TE} (hK : X.K = K) (he : PE X e ta) (hb : attributeBase e f X.env (eval e X.env) = eval e X.env) : PE X (.Attribute e f pos) (tFld K ta f) := by
  subst hK
  exact pe_fld he hb
end Ob

set_option Elab.async false
set_option linter.all false
set_option maxRecDepth 100000
set_option maxHeartbeats 2000000
/-! properties: read as e.f; what a head tells of them -/
namespace Prp
open PySem PySem.Spec PyProof.Rows L2 Rd Dt Dq Pk
/-- a property as its readers know it -/
structure PrC (P : Program) (w : World) (K : PySem.W.Frag) (mg : Str → Option Value) (base : Heap) (k : Nat) (C : Addr) (f : Str) (sp : Sp) (p g : Addr) (fd : FuncData) : Prop where
  pr : PropOf K C f p g
  bn : Binds K fd ["self"] []
  ok : FnOk P w K mg base CX0 k g fd ["self"] sp
theorem PrC.up {P : Program} {w : World} {K : PySem.W.Frag} {mg : Str → Option Value} {base : Heap} {k : Nat} {C : Addr} {f : Str} {sp : Sp} {p g : Addr} {fd : FuncData} (c : PrC P w K mg base k C f sp p g fd) {m : Nat} (h : k ≤ m) : PrC P w K mg base m C f sp p g fd := ⟨c.pr, c.bn, c.ok.mono h⟩
section
variable {σ : L2.St} {H : Hp} {Q : VK} {ta : TE} {C : Addr} {sp : Sp} {E : XK} {dvs : List V}
theorem tProp_ : tProp C sp dvs E ta σ H Q = ta σ H fun x H1 => ∃ a dx fs, x = .ref a ∧ H1 a = some (.ins C dx fs) ∧ sp (.ref a :: dvs) H1 Q E := rfl
end
theorem pe_propK {X : Cx} {K : PySem.W.Frag} {mg : Str → Option Value} {base : Heap} {P : Program} {w : World} {k : Nat} {C p g : Addr} {f : Str} {fd : FuncData} {sp : Sp} {e : Expr} {pos : Pos} {ta : TE} {E : XK}
    (h1 : X.prog = P) (h2 : X.w = w) (h3 : X.K = K) (h4 : X.mg = mg) (h5 : X.base = base) (he : PE X e ta) (c : Cls K C) (F : PrC P w K mg base k C f sp p g fd) (hr : Room (k + 1) X.A) (hx : Passes CX0 X.nox E)
    (hab : attributeBase e f X.env (eval e X.env) = eval e X.env) : PE X (.Attribute e f pos) (tProp C sp [] E ta) := by
  subst h1 h2 h3 h4 h5
  exact pe_prop he c F.pr F.ok hr F.bn .nil hx hab
/-! ### the head -/
structure PrD where
  cls : Str
  d : He.DefD
def prA (K : PySem.W.Frag) (p : PrD) : Addr := He.ma K (He.ga K p.cls) p.d.name
def geA (K : PySem.W.Frag) (p : PrD) : Addr := match PySem.W.recIn K (prA K p) "property" with
  | some (.ref g :: _) => g
  | _ => 0
/-- a head's fragment seen so that the getter stands under the class's name -/
def seen (K : PySem.W.Frag) (a : Addr) : He.FnW := match K.lookup a with
  | none => none
  | some o => (match o.data with
    | .func fd => some (fd.name, fd.qualname, fd.params, fd.body, fd.scope, fd.globals, fd.closure, fd.builtins)
    | _ => none)
def bare (K : PySem.W.Frag) (a : Addr) (q : Str) : Bool := match K.lookup a with
  | none => false
  | some o => (match o.data with
    | .func fd => PySem.W.keepIn K (.ref a) && (PySem.W.codeIn K fd.code q && (He.dflB K fd.defaults [] && He.kwdB K fd.kwdefaults []))
    | _ => false)
theorem funA {K : PySem.W.Frag} {a : Addr} {d : He.DefD} (e : seen K a = d.val) (c : bare K a d.qual = true) : ∃ fd, FunD K d.name d.qual d.params d.body d.scope [] [] a fd := by
  unfold seen at e
  unfold bare at c
  rcases hq : K.lookup a with _ | ⟨oc, od, dt, sl⟩
  · rw [hq] at c
    exact Bool.noConfusion c
  · rw [hq] at e c
    dsimp only at e c
    cases dt with
    | func fd =>
      dsimp only at e c
      rw [Bool.and_eq_true, Bool.and_eq_true, Bool.and_eq_true] at c
      obtain ⟨c1, c2, c3, c4⟩ := c
      obtain ⟨a1, a2, a3, a4, a5, a6, a7, a8, a9, b1, b2, b3, b4, b5, b6⟩ := fd
      unfold He.DefD.val at e
      dsimp only at e
      injection e with e
      rw [Prod.mk.injEq, Prod.mk.injEq, Prod.mk.injEq, Prod.mk.injEq, Prod.mk.injEq, Prod.mk.injEq, Prod.mk.injEq] at e
      obtain ⟨rfl, rfl, rfl, rfl, rfl, rfl, rfl, rfl⟩ := e
      exact ⟨_, ⟨oc, od, _, _, _, _, _, _, _, sl, rfl, hq, c2, He.dflB_ok c3, He.kwdB_ok c4⟩, c1⟩
    | _ => exact Bool.noConfusion c
def propB (K : PySem.W.Frag) (p : PrD) : Bool :=
  (decide (PySem.W.findIn K (.ref (He.ga K p.cls)) p.d.name = some (some (.ref (prA K p)))) && decide (PySem.W.specialIn K (.ref (prA K p)) "__get__" = some (some (.builtin "property.__get__")))) &&
  ((decide (PySem.W.takesIn K (.ref (prA K p)) = some true) && (match PySem.W.recIn K (prA K p) "property" with
    | some (.ref _ :: _) => true
    | _ => false)) && bare K (geA K p) p.d.qual)
theorem propB_ok {K : PySem.W.Frag} {p : PrD} (h : propB K p = true) (e : seen K (geA K p) = p.d.val) : PropOf K (He.ga K p.cls) p.d.name (prA K p) (geA K p) ∧ ∃ fd, FunD K p.d.name p.d.qual p.d.params p.d.body p.d.scope [] [] (geA K p) fd := by
  unfold propB at h
  rw [Bool.and_eq_true, Bool.and_eq_true, Bool.and_eq_true, Bool.and_eq_true] at h
  obtain ⟨⟨h1, h2⟩, ⟨h3, h4⟩, h5⟩ := h
  refine ⟨⟨of_decide_eq_true h1, of_decide_eq_true h2, of_decide_eq_true h3, ?_⟩, funA e h5⟩
  unfold geA
  split at h4
  · rename_i g rest hg
    rw [hg]
    exact ⟨rest, rfl⟩
  · exact Bool.noConfusion h4
abbrev AlP : Type := Ga.AlM × (Bool × List He.FnW)
open He in
def frS (g : Addr → Option Obj) (n : Nat) : PySem.W.Frag := frG g (sysModules :: asD g n)
open He in
def obsPK (fa : List Fa) (fn : List DefD) (ps : List PrD) (ex : PySem.W.Frag → Bool) (K : PySem.W.Frag) : AlP := ((obsD fa fn K, ex K), (ps.all (propB K), ps.map fun p => seen K (geA K p)))
open He in
def valP (fn : List DefD) (ps : List PrD) : AlP := ((valD fn, true), (true, ps.map fun p => p.d.val))
open He in
def obsP (n : Nat) (fa : List Fa) (fn : List DefD) (ps : List PrD) (ex : PySem.W.Frag → Bool) (g : Addr → Option Obj) : AlP := obsPK fa fn ps ex (frS g n)
def SaysP (ps : List PrD) (K : PySem.W.Frag) : Prop := ps.all (propB K) = true ∧ (ps.map fun p => seen K (geA K p)) = ps.map fun p => p.d.val
theorem SaysP.at {ps : List PrD} {K : PySem.W.Frag} (c : SaysP ps K) (i : Nat) {p : PrD} (h : ps[i]? = some p := by rfl) : PropOf K (He.ga K p.cls) p.d.name (prA K p) (geA K p) ∧ ∃ fd, FunD K p.d.name p.d.qual p.d.params p.d.body p.d.scope [] [] (geA K p) fd := by
  have m := List.mem_of_getElem? h
  refine propB_ok (List.all_eq_true.mp c.1 p m) ?_
  have e2 := congrArg (fun l : List He.FnW => l[i]?) c.2
  simp only [List.getElem?_map, h, Option.map_some] at e2
  exact Option.some.inj e2
open He in
def hookP (n : Nat) (fa : List Fa) (fn : List DefD) (ps : List PrD) (ex : PySem.W.Frag → Bool) : PySem.W.Hook where
  α := AlP
  obs := fun s => obsP n fa fn ps ex s.heap.get?
  val := fun _ => valP fn ps
  says := fun _ h => ∃ K : PySem.W.Frag, K.In h ∧ SaysD fa fn K ∧ (ex K = true ∧ SaysP ps K)
  of := fun _ _ e => ⟨_, frG_in, congrArg (fun z : AlP => z.1.1) e, congrArg (fun z : AlP => z.1.2) e, congrArg (fun z : AlP => z.2.1) e, congrArg (fun z : AlP => z.2.2) e⟩
  keeps := fun _ _ _ ⟨K, hK, c⟩ k => ⟨K, PySem.W.Frag.In.keeps hK k, c⟩
open He in
theorem obsP_eq {n : Nat} {fa : List Fa} {fn : List DefD} {ps : List PrD} {ex : PySem.W.Frag → Bool} {g : Addr → Option Obj} {s : Shared} (h : ∀ a, g a = s.heap.get? a) : obsP n fa fn ps ex g = (hookP n fa fn ps ex).obs s := by
  obtain rfl : g = s.heap.get? := funext h
  rfl
end Prp

set_option Elab.async false
set_option linter.all false
set_option maxRecDepth 100000
set_option maxHeartbeats 2000000
/-! a head's hook over the objects up to an address, and its run seen in parts (each check of the run takes memory) -/
noncomputable section
namespace Hk
open PySem PySem.Spec PyProof.Rows He HandSHeadRun
def upTo (n : Nat) : List Addr := sysModules :: List.range' 3 n
def frR (g : Addr → Option Obj) (n : Nat) : PySem.W.Frag := frG g (upTo n)
def obsR (n : Nat) (fa : List Fa) (fn : List DefD) (ps : List Prp.PrD) (ex : PySem.W.Frag → Bool) (g : Addr → Option Obj) : Prp.AlP := Prp.obsPK fa fn ps ex (frR g n)
def hookR (n : Nat) (fa : List Fa) (fn : List DefD) (ps : List Prp.PrD) (ex : PySem.W.Frag → Bool) : PySem.W.Hook where
  α := Prp.AlP
  obs := fun s => obsR n fa fn ps ex s.heap.get?
  val := fun _ => Prp.valP fn ps
  says := fun _ h => ∃ K : PySem.W.Frag, K.In h ∧ SaysD fa fn K ∧ (ex K = true ∧ Prp.SaysP ps K)
  of := fun _ _ e => ⟨_, frG_in, congrArg (fun z : Prp.AlP => z.1.1) e, congrArg (fun z : Prp.AlP => z.1.2) e, congrArg (fun z : Prp.AlP => z.2.1) e, congrArg (fun z : Prp.AlP => z.2.2) e⟩
  keeps := fun _ _ _ ⟨K, hK, c⟩ k => ⟨K, PySem.W.Frag.In.keeps hK k, c⟩
theorem obsR_eq {n : Nat} {fa : List Fa} {fn : List DefD} {ps : List Prp.PrD} {ex : PySem.W.Frag → Bool} {g : Addr → Option Obj} {s : Shared} (h : ∀ a, g a = s.heap.get? a) : obsR n fa fn ps ex g = (hookR n fa fn ps ex).obs s := by
  have e : g = s.heap.get? := funext h
  rw [e]
  rfl
/-- what a look at the state behind the top tells -/
def Looks {β : Type} (r : PySem.W.OpenRow) (M : Nat) (w : World) (f : PySem.W.SharedT → β) (b : β) : Prop := ∀ os : OsState, (endF (stepQ (denQ tabQ) r.prog w) M r.prog w os).map f = some b
theorem both {r : PySem.W.OpenRow} {q : Program} {H : PySem.W.Hook} {ob : PySem.W.SharedT → H.α} {M : Nat} {loose : List Str} {w : World} (h1 : RunEq r q PySem.W.Hook.none (fun _ => ()) M loose w) (h2 : Looks r M w ob (H.val w)) : RunEq r q H ob M loose w := fun os => by
  have a := h1 os
  have b := h2 os
  cases e : endF (stepQ (denQ tabQ) r.prog w) M r.prog w os with
  | none => rw [e] at a; cases a
  | some s =>
    rw [e] at a b
    have a' := Option.some.inj a
    have b' := Option.some.inj b
    obtain ⟨a1, a2⟩ := Prod.mk.inj a'
    obtain ⟨a2, _⟩ := Prod.mk.inj a2
    show some (_, _, _) = some (_, _, _)
    rw [a1, a2, b']
theorem obs2 {r : PySem.W.OpenRow} {M : Nat} {w : World} {n : Nat} {fa : List Fa} {fn : List DefD} {ps : List Prp.PrD} {ex : PySem.W.Frag → Bool} (h1 : Looks r M w (fun s => fa.all fun f => f.ok (frR (getT s) n)) true)
    (h2 : Looks r M w (fun s => obsR n [] fn ps ex (getT s)) (Prp.valP fn ps)) : Looks r M w (fun s => obsR n fa fn ps ex (getT s)) (Prp.valP fn ps) := fun os => by
  have a := h1 os
  have b := h2 os
  cases e : endF (stepQ (denQ tabQ) r.prog w) M r.prog w os with
  | none => rw [e] at a; cases a
  | some s =>
    rw [e] at a b
    have a' := Option.some.inj a
    have b' := Option.some.inj b
    refine congrArg some ?_
    rw [← b']
    show ((((fa.all fun f => f.ok (frR (getT s) n)) && _, _), _), _) = _
    have a2 : (fa.all fun f => f.ok (frR (getT s) n)) = true := a'
    rw [a2]
    rfl
end Hk

set_option Elab.async false
set_option linter.all false
set_option maxRecDepth 100000
set_option maxHeartbeats 2000000
/-! sets of numbers that come round, as plain functions -/
namespace Ln
structure Per (f : Nat → Bool) (s p : Nat) : Prop where
  pos : 0 < p
  eq : ∀ n, s ≤ n → f (n + p) = f n
theorem Per.mono {f : Nat → Bool} {s s' p : Nat} (h : Per f s p) (e : s ≤ s') : Per f s' p := ⟨h.pos, fun n hn => h.eq n (Nat.le_trans e hn)⟩
theorem Per.steps {f : Nat → Bool} {s p : Nat} (h : Per f s p) : ∀ (k n : Nat), s ≤ n → f (n + k * p) = f n
  | 0, n, _ => by rw [Nat.zero_mul, Nat.add_zero]
  | k + 1, n, hn => by
    rw [Nat.add_mul, Nat.one_mul, ← Nat.add_assoc, h.eq (n + k * p) (by omega), h.steps k n hn]
theorem Per.lower {f : Nat → Bool} {s s' p q : Nat} (h : Per f s p) (g : Per f s' q) : Per f s q := ⟨g.pos, fun n hn => by
  have e1 := h.steps s' (n + q) (by omega)
  have e2 := h.steps s' n hn
  have hs : s' ≤ n + s' * p := Nat.le_trans (Nat.le_mul_of_pos_right s' h.pos) (Nat.le_add_left _ _)
  have e3 := g.eq (n + s' * p) hs
  rw [← e1, ← e2, ← e3]
  congr 1
  omega⟩
theorem Per.sub {f : Nat → Bool} {s p q : Nat} (h : Per f s p) (g : Per f s q) (e : p < q) : Per f s (q - p) := ⟨by omega, fun n hn => by
  rw [← h.eq (n + (q - p)) (by omega), ← g.eq n hn]
  congr 1
  omega⟩
theorem Per.gcd {f : Nat → Bool} {s : Nat} : ∀ (m p q : Nat), p + q ≤ m → Per f s p → Per f s q → Per f s (Nat.gcd p q)
  | 0, p, q, hm, hp, _ => by have := hp.pos; omega
  | m + 1, p, q, hm, hp, hq => by
    have := hp.pos
    have := hq.pos
    by_cases e : p = q
    · rw [e, Nat.gcd_self]; exact hq
    · by_cases l : p < q
      · have h1 := Per.gcd m p (q - p) (by omega) hp (hp.sub hq l)
        have e2 : Nat.gcd p (q - p) = Nat.gcd p q := by
          have := Nat.gcd_add_self_right p (q - p)
          rw [Nat.sub_add_cancel (by omega)] at this
          exact this.symm
        rwa [e2] at h1
      · have h1 := Per.gcd m (p - q) q (by omega) (hq.sub hp (by omega)) hq
        have e2 : Nat.gcd (p - q) q = Nat.gcd p q := by
          have := Nat.gcd_add_self_left q (p - q)
          rw [Nat.sub_add_cancel (by omega)] at this
          exact this.symm
        rwa [e2] at h1
/-- the least start and the least step -/
structure Norm (f : Nat → Bool) (s t : Nat) : Prop where
  per : Per f s t
  min : ∀ s' p, Per f s' p → t ∣ p
  low : ∀ s', Per f s' t → s ≤ s'
theorem Norm.unique {f : Nat → Bool} {s t s' t' : Nat} (h : Norm f s t) (g : Norm f s' t') : s = s' ∧ t = t' := by
  have e : t = t' := Nat.dvd_antisymm (h.min _ _ g.per) (g.min _ _ h.per)
  subst e
  exact ⟨Nat.le_antisymm (h.low _ g.per) (g.low _ h.per), rfl⟩
theorem Norm.make {f : Nat → Bool} {start step d s : Nat} (hp : Per f start step) (hd : d ∣ step) (pd : Per f start d) (least : ∀ e, 0 < e → e ∣ step → Per f start e → d ≤ e) (hs : Per f s d) (hlow : s = 0 ∨ f (s - 1) ≠ f (s - 1 + d)) : Norm f s d := by
  refine ⟨hs, fun s' p h => ?_, fun s' h => ?_⟩
  · have h1 := hp.lower h
    have h2 := Per.gcd (d + p) d p (Nat.le_refl _) pd h1
    have h3 := least _ h2.pos (Nat.dvd_trans (Nat.gcd_dvd_left d p) hd) h2
    have h4 := Nat.le_of_dvd pd.pos (Nat.gcd_dvd_left d p)
    have e : Nat.gcd d p = d := Nat.le_antisymm h4 h3
    rw [← e]
    exact Nat.gcd_dvd_right d p
  · rcases hlow with z | z
    · omega
    · apply Classical.byContradiction
      intro hn
      exact z (h.eq (s - 1) (by omega)).symm
/-- beyond the start a number stands for one of the first round -/
theorem Per.fold {f : Nat → Bool} {s t : Nat} (h : Per f s t) (n : Nat) (hn : s ≤ n) : f n = f (s + (n - s) % t) := by
  have e := h.steps ((n - s) / t) (s + (n - s) % t) (by omega)
  rw [← e]
  congr 1
  have := Nat.mod_add_div (n - s) t
  rw [Nat.mul_comm] at this
  omega
theorem Per.ext {f g : Nat → Bool} {s t : Nat} (h : Per f s t) (k : Per g s t) (e : ∀ n, n < s + t → f n = g n) : f = g := by
  funext n
  by_cases hn : n < s
  · exact e n (by omega)
  · rw [h.fold n (by omega), k.fold n (by omega)]
    have := Nat.mod_lt (n - s) h.pos
    exact e _ (by omega)
/-- the bits of a set from 0 on -/
structure Bits (f : Nat → Bool) (B m : Nat) : Prop where
  lt : B < 2 ^ m
  eq : ∀ n, n < m → B.testBit n = f n
theorem Bits.at {f : Nat → Bool} {B m : Nat} (h : Bits f B m) (n : Nat) : B.testBit n = (f n && decide (n < m)) := by
  by_cases hn : n < m
  · rw [h.eq n hn, decide_eq_true hn, Bool.and_true]
  · rw [decide_eq_false hn, Bool.and_false]
    exact Nat.testBit_lt_two_pow (Nat.lt_of_lt_of_le h.lt (Nat.pow_le_pow_right (by decide) (by omega)))
theorem Bits.unique {f : Nat → Bool} {B C m : Nat} (h : Bits f B m) (g : Bits f C m) : B = C := Nat.eq_of_testBit_eq fun n => by rw [h.at, g.at]
theorem Bits.cut {f : Nat → Bool} {B m k : Nat} (h : Bits f B m) (e : k ≤ m) : Bits f (B &&& (2 ^ k - 1)) k := by
  refine ⟨Nat.lt_of_le_of_lt Nat.and_le_right (by have := Nat.two_pow_pos k; omega), fun n hn => ?_⟩
  rw [Nat.testBit_and, Nat.testBit_two_pow_sub_one, decide_eq_true hn, Bool.and_true, h.eq n (by omega)]
/-- what the program looks at: the round has a shorter period -/
theorem shorter {f : Nat → Bool} {B start step e : Nat} (hb : Bits f B (start + step)) (hp : Per f start step) (he : 0 < e) (hd : e ∣ step) :
    ((B >>> start) >>> e = (B >>> start) &&& (2 ^ (step - e) - 1)) ↔ Per f start e := by
  have le : e ≤ step := Nat.le_of_dvd hp.pos hd
  constructor
  · intro h
    have one : ∀ j, j + e < step → f (start + j + e) = f (start + j) := fun j hj => by
      have h1 := congrArg (fun x => x.testBit j) h
      simp only [Nat.testBit_shiftRight, Nat.testBit_and, Nat.testBit_two_pow_sub_one] at h1
      rw [decide_eq_true (show j < step - e by omega), Bool.and_true] at h1
      rw [hb.eq _ (by omega), hb.eq _ (by omega)] at h1
      rw [← h1]
      congr 1
      omega
    have chain : ∀ (k i : Nat), i + k * e < step → f (start + i + k * e) = f (start + i) := fun k => by
      induction k with
      | zero => intro i _; rw [Nat.zero_mul, Nat.add_zero]
      | succ k ih =>
        intro i hi
        rw [Nat.add_mul, Nat.one_mul] at hi ⊢
        rw [← ih i (by omega)]
        have := one (i + k * e) (by omega)
        rw [← Nat.add_assoc] at this
        rw [← this]
        congr 1
        omega
    refine ⟨he, fun n hn => ?_⟩
    obtain ⟨k, hk⟩ := hd
    obtain ⟨j, rfl⟩ : ∃ j, n = start + j := ⟨n - start, by omega⟩
    have hr := Nat.mod_lt j hp.pos
    have dj : j = j % step + (j / step) * step := by
      have := Nat.mod_add_div j step
      rw [Nat.mul_comm] at this
      omega
    generalize j % step = r at hr dj
    generalize j / step = q at dj
    subst dj
    have e1 : f (start + (r + q * step)) = f (start + r) := by
      rw [← Nat.add_assoc]
      exact hp.steps q (start + r) (by omega)
    have e2 : f (start + (r + q * step) + e) = f (start + r + e) := by
      have := hp.steps q (start + r + e) (by omega)
      rw [← this]
      congr 1
      omega
    rw [e1, e2]
    by_cases c : r + e < step
    · exact one r c
    · have hk0 : 0 < k := by
        rcases Nat.eq_zero_or_pos k with z | z
        · rw [z, Nat.mul_zero] at hk
          have := hp.pos
          omega
        · exact z
      have hk1 : step = (k - 1) * e + e := by
        rw [hk, Nat.mul_comm]
        obtain ⟨k', rfl⟩ : ∃ k', k = k' + 1 := ⟨k - 1, by omega⟩
        rw [Nat.add_mul, Nat.one_mul, Nat.add_sub_cancel]
      obtain ⟨i, hi, hie⟩ : ∃ i, r = (k - 1) * e + i ∧ i < e := ⟨r - (k - 1) * e, by omega, by omega⟩
      have e3 : f (start + r + e) = f (start + i) := by
        have := hp.eq (start + i) (by omega)
        rw [← this]
        congr 1
        omega
      have e4 := chain (k - 1) i (by omega)
      rw [e3, ← e4]
      congr 1
      omega
  · intro h
    apply Nat.eq_of_testBit_eq
    intro j
    simp only [Nat.testBit_shiftRight, Nat.testBit_and, Nat.testBit_two_pow_sub_one]
    rw [hb.at, hb.at]
    by_cases c : e + j < step
    · rw [decide_eq_true (show start + (e + j) < start + step by omega), decide_eq_true (show start + j < start + step by omega), decide_eq_true (show j < step - e by omega), Bool.and_true, Bool.and_true, Bool.and_true]
      rw [← h.eq (start + j) (by omega)]
      congr 1
      omega
    · rw [decide_eq_false (show ¬ start + (e + j) < start + step by omega), decide_eq_false (show ¬ j < step - e by omega), Bool.and_false, Bool.and_false]
/-- one bit of it -/
theorem bit_at (B n : Nat) : (B >>> n) &&& 1 = if B.testBit n then 1 else 0 := by
  rw [Nat.and_one_is_mod, Nat.shiftRight_eq_div_pow]
  have h := Nat.testBit_eq_decide_div_mod_eq (x := B) (i := n)
  have h2 := Nat.mod_lt (B / 2 ^ n) (show 0 < 2 by decide)
  by_cases c : B / 2 ^ n % 2 = 1
  · rw [h, decide_eq_true c, if_pos rfl]; exact c
  · rw [h, decide_eq_false c, if_neg (by decide)]; omega
end Ln

set_option Elab.async false
set_option linter.all false
set_option maxRecDepth 100000
set_option maxHeartbeats 2000000
/-! shifts, and, or of naturals -/
namespace Bw
open PySem PySem.Spec PyProof.Rows L2 Rd Dt
section
variable {X : Cx}
def rShr : R2 := fun x y H Q => ∃ i k : Nat, x = .int i ∧ y = .int k ∧ Q (.int ((i >>> k : Nat) : Int)) H
def rShl : R2 := fun x y H Q => ∃ i k n : Nat, x = .int i ∧ y = .int k ∧ i < 2 ^ n ∧ n + k ≤ 100000 ∧ Q (.int ((i * 2 ^ k : Nat) : Int)) H
def rAnd : R2 := fun x y H Q => ∃ i k : Nat, x = .int i ∧ y = .int k ∧ Q (.int ((i &&& k : Nat) : Int)) H
def rOr : R2 := fun x y H Q => ∃ i k : Nat, x = .int i ∧ y = .int k ∧ Q (.int ((i ||| k : Nat) : Int)) H
theorem op_shr : OpR X (binaryOp .RShift) rShr := by
  rintro pins s σ H x y v u Q I rx ry ⟨i, k, rfl, rfl, q⟩
  refine L2.op_shr pins s σ H _ _ v u Q I rx ry ⟨_, _, rfl, rfl, Int.natCast_nonneg k, ?_⟩
  have e : (i : Int) / 2 ^ (k : Int).toNat = ((i >>> k : Nat) : Int) := by
    rw [Int.toNat_natCast, Nat.shiftRight_eq_div_pow]
    push_cast
    rfl
  rw [← e] at q
  exact q
theorem op_shl : OpR X (binaryOp .LShift) rShl := by
  rintro pins s σ H x y v u Q I rx ry ⟨i, k, n, rfl, rfl, hi, hn, q⟩
  refine op_shlW pins s σ H _ _ v u Q I rx ry ⟨_, _, rfl, rfl, shl_ok (n := n) (by rw [Int.natAbs_natCast]; exact hi) (by omega), ?_⟩
  have e : (i : Int) * 2 ^ (k : Int).toNat = ((i * 2 ^ k : Nat) : Int) := by
    rw [Int.toNat_natCast]
    push_cast
    rfl
  rw [← e] at q
  exact q
theorem op_and : OpR X (binaryOp .BitAnd) rAnd := by
  rintro pins s σ H x y v u Q I rx ry ⟨i, k, rfl, rfl, q⟩
  refine L2.op_and pins s σ H _ _ v u Q I rx ry ⟨_, _, rfl, rfl, ?_⟩
  have e : Builtin.bitAnd (i : Int) (k : Int) = ((i &&& k : Nat) : Int) := by
    rw [bitAnd_pp (Int.natCast_nonneg i) (Int.natCast_nonneg k), Int.toNat_natCast, Int.toNat_natCast]
  rw [← e] at q
  exact q
theorem op_or : OpR X (binaryOp .BitOr) rOr := by
  rintro pins s σ H x y v u Q I rx ry ⟨i, k, rfl, rfl, q⟩
  refine L2.op_or pins s σ H _ _ v u Q I rx ry ⟨_, _, rfl, rfl, ?_⟩
  have e : Builtin.bitOr (i : Int) (k : Int) = ((i ||| k : Nat) : Int) := by
    rw [bitOr_nn (Int.natCast_nonneg i) (Int.natCast_nonneg k), Int.toNat_natCast, Int.toNat_natCast]
  rw [← e] at q
  exact q
/-- while, the test shown for any use of its answer -/
theorem while_b2 {c : TT} {tb : TS} {D : Ends} {σ : L2.St} {H : Hp} (Pv : L2.St → Hp → Prop) (μ : L2.St → Hp → Nat) (h0 : Pv σ H)
    (hs : ∀ σ H, Pv σ H → ∀ Q : Bool → Hp → Prop, (∀ H1, tb { D with nx := fun σ' H' => Pv σ' H' ∧ μ σ' H' < μ σ H, ct := fun σ' H' => Pv σ' H' ∧ μ σ' H' < μ σ H, bk := D.nx } σ H1 → Q true H1) → (∀ H1, D.nx σ H1 → Q false H1) → c σ H Q) : tWhile c tb D σ H := by
  refine ⟨fun m σ H => m = μ σ H ∧ Pv σ H, ⟨_, rfl, h0⟩, ?_⟩
  rintro m σ H ⟨rfl, p⟩
  exact hs σ H p _ (fun H1 q => ⟨_, fun σ' H' ⟨p', l⟩ => ⟨_, l, rfl, p'⟩, q⟩) fun H1 q => q
end
/-! ### sets of bits -/
theorem bits_add {f : Nat → Bool} {B m n : Nat} (h : Ln.Bits f B m) (hn : n < m) : Ln.Bits (fun k => f k || decide (k = n)) (B ||| 1 * 2 ^ n) m := by
  rw [Nat.one_mul]
  refine ⟨Nat.or_lt_two_pow h.lt (Nat.pow_lt_pow_right (by decide) hn), fun k hk => ?_⟩
  rw [Nat.testBit_or, Nat.testBit_two_pow, h.eq k hk]
  congr 1
  exact decide_eq_decide.mpr eq_comm
theorem bits_congr {f g : Nat → Bool} {B m : Nat} (h : Ln.Bits f B m) (e : ∀ n, n < m → f n = g n) : Ln.Bits g B m := ⟨h.lt, fun n hn => by rw [h.eq n hn]; exact e n hn⟩
theorem bits_zero {m : Nat} : Ln.Bits (fun _ => false) 0 m := ⟨Nat.two_pow_pos m, fun n _ => Nat.zero_testBit n⟩
theorem bits_or {f g : Nat → Bool} {B C m : Nat} (h : Ln.Bits f B m) (k : Ln.Bits g C m) : Ln.Bits (fun n => f n || g n) (B ||| C) m := ⟨Nat.or_lt_two_pow h.lt k.lt, fun n hn => by rw [Nat.testBit_or, h.eq n hn, k.eq n hn]⟩
theorem bits_and {f g : Nat → Bool} {B C m : Nat} (h : Ln.Bits f B m) (k : Ln.Bits g C m) : Ln.Bits (fun n => f n && g n) (B &&& C) m := ⟨Nat.lt_of_le_of_lt Nat.and_le_left h.lt, fun n hn => by rw [Nat.testBit_and, h.eq n hn, k.eq n hn]⟩
theorem disj_add : ∀ (m x y : Nat), x < 2 ^ m → x &&& y = 0 → x + y = x ||| y
  | 0, x, y, h, _ => by
    have : x = 0 := by simpa using h
    rw [this, Nat.zero_add, Nat.zero_or]
  | m + 1, x, y, h, e => by
    have hx : x / 2 < 2 ^ m := by rw [Nat.pow_succ] at h; omega
    have e2 : x / 2 &&& y / 2 = 0 := by rw [← Nat.and_div_two, e]
    have ih := disj_add m (x / 2) (y / 2) hx e2
    have d : (x ||| y) / 2 = x / 2 ||| y / 2 := Nat.or_div_two
    have b0 := congrArg (fun z => z.testBit 0) e
    have c0 : (x ||| y).testBit 0 = (x.testBit 0 || y.testBit 0) := Nat.testBit_or ..
    simp only [Nat.testBit_and, Nat.testBit_zero, Nat.zero_testBit] at b0 c0
    have r1 := Nat.mod_two_eq_zero_or_one x
    have r2 := Nat.mod_two_eq_zero_or_one y
    have r3 := Nat.mod_two_eq_zero_or_one (x ||| y)
    have m3 : (x ||| y) % 2 = x % 2 + y % 2 := by
      rcases r1 with r1 | r1 <;> rcases r2 with r2 | r2 <;> rcases r3 with r3 | r3 <;> simp [r1, r2, r3] at b0 c0 ⊢
    have := Nat.div_add_mod (x ||| y) 2
    have := Nat.div_add_mod x 2
    have := Nat.div_add_mod y 2
    omega
/-- bits lacking others: B - (B & C) -/
theorem bits_sub {f g : Nat → Bool} {B C m : Nat} (h : Ln.Bits f B m) (k : Ln.Bits g C m) : Ln.Bits (fun n => f n && !g n) (B - (B &&& C)) m := by
  have hx : B - (B &&& C) = B ^^^ (B &&& C) := by
    have hd : B = (B ^^^ (B &&& C)) + (B &&& C) := by
      have e : (B ^^^ (B &&& C)) &&& (B &&& C) = 0 := by
        refine Nat.eq_of_testBit_eq fun n => ?_
        rw [Nat.testBit_and, Nat.testBit_xor, Nat.testBit_and, Nat.zero_testBit]
        cases B.testBit n <;> cases C.testBit n <;> rfl
      have e2 : (B ^^^ (B &&& C)) ||| (B &&& C) = B := by
        refine Nat.eq_of_testBit_eq fun n => ?_
        rw [Nat.testBit_or, Nat.testBit_xor, Nat.testBit_and]
        cases B.testBit n <;> cases C.testBit n <;> rfl
      have := disj_add B (B ^^^ (B &&& C)) (B &&& C) (Nat.xor_lt_two_pow Nat.lt_two_pow_self (Nat.lt_of_le_of_lt Nat.and_le_left Nat.lt_two_pow_self)) e
      omega
    omega
  rw [hx]
  refine ⟨Nat.xor_lt_two_pow h.lt (Nat.lt_of_le_of_lt Nat.and_le_left h.lt), fun n hn => ?_⟩
  rw [Nat.testBit_xor, Nat.testBit_and, h.eq n hn, k.eq n hn]
  cases f n <;> cases g n <;> rfl
end Bw

set_option Elab.async false
set_option linter.all false
set_option maxRecDepth 100000
set_option maxHeartbeats 2000000
/-! math.lcm of two small numbers above 0; fields as targets of a tuple -/
namespace Lc
open PySem PySem.Spec PyProof.Rows L2 Rd Dt Dq Pk
section
variable {X : Cx}
def rLcm : List V → Hp → VK → Prop := fun vs H Q => ∃ a b : Nat, vs = [.int a, .int b] ∧ a < 65536 ∧ b < 65536 ∧ Q (.int ((Nat.lcm a b : Nat) : Int)) H
theorem lcm_lt {a b : Nat} (ha : a < 65536) (hb : b < 65536) : Nat.lcm a b < 2 ^ 32 := by
  have h1 : Nat.lcm a b ≤ a * b := Nat.div_le_self _ _
  have h2 : a * b ≤ 65535 * 65535 := Nat.mul_le_mul (by omega) (by omega)
  omega
theorem cr_lcm : CallR X (.builtin "math.lcm") rLcm := by
  intro pins s σ H vs us Q I r h
  obtain ⟨a, b, rfl, ha, hb, q⟩ := h
  obtain ⟨t, u, rfl⟩ := Vals.int2 r
  refine PySem.W.mg_lcm_v (by show (a : Int).natAbs < 2 ^ 64; omega) (by show (b : Int).natAbs < 2 ^ 64; omega) (c := ((Nat.lcm a b : Nat) : Int)) ?_ ?_ ⟨.int _, H, I.tok _, ⟨_, rfl⟩, q⟩
  · rw [Nat.lcm_one_left]
    rfl
  · show (Nat.lcm a b).log2 < bitsLine
    have := lcm_lt ha hb
    by_cases c : Nat.lcm a b = 0
    · rw [c]; decide
    · have := (Nat.log2_lt c).mpr this
      have e : bitsLine = 134217728 := by decide
      omega
/-- e.f, a target -/
def gFld (K : PySem.W.Frag) (ta : TE) (f : Str) : TG := fun v σ H Q => ta σ H fun x H1 => ∃ a C dx fs, x = .ref a ∧ Ob.SA K H1 a f C dx fs ∧ Q σ (upd H1 a (.ins C dx (putF f v fs)))
theorem pg_fld {o : Expr} {f : Str} {pos : Pos} {ta : TE} (ha : PE X o ta) : PG X (.Attribute o f pos) (gFld X.K ta f) := by
  refine ⟨fun pins s σ H v u Q I r h => ?_⟩
  rw [arm_assign_Attribute]
  refine wpAny_bind (wpAny_holding (thn (ha.run pins s σ H _ I h) fun ov s1 ⟨x, H1, I1, rx, a, C, dx, fs, ex, ⟨ea, c, n, l⟩, q⟩ => ?_))
  subst ex
  obtain rfl : ov = Value.ref a := rx
  refine wpAny_bind (wpAny_standAt (wpAny_bind (wpAny_holding (setattr_ok I1 ea c n l r fun s2 I2 => ?_))))
  exact wpAny_release ⟨σ, _, I2, q⟩
end

theorem _root_.L2.Room.units65 {k : Nat} {A : Around} (r : Room k A) : A.units + 65 < cLine := by have := r.un; omega
theorem op_inDK {X : Cx} {K : PySem.W.Frag} (hK : X.K = K) (hu : X.A.units + 65 < cLine) : OpR X (compareOp .In) (rInD K) := by
  subst hK
  exact op_inD hu
theorem rInD_ {K : PySem.W.Frag} {x y : V} {H : Hp} {Q : VK} : rInD K x y H Q = ∃ d ds, Dp K H x d ∧ Dp K H y (.list ds) ∧ SeqAt.shaped d = true ∧ SeqAt.shaped (.list ds) = true ∧ Q (.bl (ds.any fun z => PyData.eqv z d)) H := rfl
end Lc

set_option Elab.async false
set_option linter.all false
set_option maxRecDepth 100000
set_option maxHeartbeats 2000000
/-! the lowest bit; isinstance of an own class; f-strings -/
namespace Lo
open PySem PySem.Spec PyProof.Rows L2 Rd Dt Dq Pk
theorem low_at {B k : Nat} (h : B.testBit k = true) (l : ∀ j, j < k → B.testBit j = false) : B - (B &&& (B - 1)) = 2 ^ k := by
  have e : B = 2 ^ (k + 1) * (B / 2 ^ (k + 1)) + 2 ^ k := by
    apply Nat.eq_of_testBit_eq
    intro i
    rw [Nat.testBit_two_pow_mul_add _ (by rw [Nat.pow_succ]; have := Nat.two_pow_pos k; omega)]
    by_cases c : i < k + 1
    · rw [if_pos c, Nat.testBit_two_pow]
      by_cases d : k = i
      · rw [← d, h, decide_eq_true rfl]
      · rw [l i (by omega), decide_eq_false d]
    · rw [if_neg c, Nat.testBit_div_two_pow]
      congr 1
      omega
  generalize B / 2 ^ (k + 1) = q at e
  have tp := Nat.two_pow_pos k
  have e1 : B - 1 = 2 ^ (k + 1) * q + (2 ^ k - 1) := by omega
  have e2 : B &&& (B - 1) = 2 ^ (k + 1) * q := by
    rw [e1]
    conv => lhs; lhs; rw [e]
    apply Nat.eq_of_testBit_eq
    intro i
    rw [Nat.testBit_and, Nat.testBit_two_pow_mul_add _ (by rw [Nat.pow_succ]; omega), Nat.testBit_two_pow_mul_add _ (by rw [Nat.pow_succ]; omega), Nat.testBit_two_pow_mul]
    by_cases c : i < k + 1
    · rw [if_pos c, if_pos c, Nat.testBit_two_pow, Nat.testBit_two_pow_sub_one, decide_eq_false (show ¬ i ≥ k + 1 by omega), Bool.false_and]
      by_cases d : k = i
      · rw [decide_eq_false (show ¬ i < k by omega), Bool.and_false]
      · rw [decide_eq_false d, Bool.false_and]
    · rw [if_neg c, if_neg c, Bool.and_self, decide_eq_true (show i ≥ k + 1 by omega), Bool.true_and]
  rw [e2]
  omega
theorem bits_pow (k : Nat) : Builtin.Int.intBits (((2 ^ k : Nat)) : Int) = k + 1 := by
  have tp := Nat.two_pow_pos k
  unfold Builtin.Int.intBits
  rw [if_neg (show ¬ ((((2 ^ k : Nat)) : Int) == 0) = true from fun z => by have := eq_of_beq z; omega), Int.natAbs_natCast, Nat.log2_two_pow]
def rLow : R2 := fun x y H Q => ∃ i : Nat, x = .int i ∧ y = .int (-(i : Int)) ∧ 0 < i ∧ Q (.int ((i - (i &&& (i - 1)) : Nat) : Int)) H
section
variable {X : Cx}
theorem op_low : OpR X (binaryOp .BitAnd) rLow := by
  rintro pins s σ H x y v u Q I rx ry ⟨i, rfl, rfl, hi, q⟩
  refine L2.op_and pins s σ H _ _ v u Q I rx ry ⟨_, _, rfl, rfl, ?_⟩
  have e : Builtin.bitAnd (i : Int) (-(i : Int)) = ((i - (i &&& (i - 1)) : Nat) : Int) := by
    unfold Builtin.bitAnd
    have en : Builtin.bitNot (-(i : Int)) = ((i - 1 : Nat) : Int) := by
      show - -(i : Int) - 1 = _
      omega
    rw [decide_eq_true (show (0 : Int) ≤ i by omega), decide_eq_false (show ¬ (0 : Int) ≤ -(i : Int) by omega), en]
    show (i : Int) - (((i : Int).toNat &&& (((i - 1 : Nat) : Int)).toNat : Nat) : Int) = _
    rw [Int.toNat_natCast, Int.toNat_natCast]
    have := @Nat.and_le_left i (i - 1)
    omega
  rw [← e] at q
  exact q
end
theorem tBits_ {to : TE} {σ : L2.St} {H : Hp} {Q : VK} : tBits to σ H Q = to σ H fun x H1 => ∃ i, x = .int i ∧ Q (.int (Builtin.Int.intBits i : Nat)) H1 := rfl
/-! f-strings -/
theorem tJs_n {acc : Str} {σ : L2.St} {H : Hp} {Q : Str → Hp → Prop} : tJs [] acc σ H Q = Q acc H := rfl
theorem tJs_c {t : TE} {ts : List TE} {acc : Str} {σ : L2.St} {H : Hp} {Q : Str → Hp → Prop} : tJs (t :: ts) acc σ H Q = t σ H fun x H1 => ∃ y : Str, x = .str y ∧ (acc ++ y).length ≤ sizeLine ∧ tJs ts (acc ++ y) σ H1 Q := rfl
theorem tFmt_ {te : TE} {σ : L2.St} {H : Hp} {Q : VK} : tFmt te σ H Q = te σ H fun x H1 => (∃ y : Str, x = .str y ∧ y.length ≤ sizeLine ∧ Q (.str y) H1) ∨ ∃ i : Int, x = .int i ∧ i.natAbs.log2 < 1920 ∧ Q (.str (toString i)) H1 := rfl
/-! ### an instance of an own class -/
structure OwnC (K : PySem.W.Frag) (C : Addr) : Prop where
  cl : Cls K C
  ha : PySem.W.findIn K (.ref C) "__class__" = some (some (.builtin "object.__class__"))
  hn : PySem.W.specialIn K (.builtin "object.__class__") "__get__" = some (some (.builtin "getset_descriptor.__get__"))
  ht : PySem.W.takesIn K (.builtin "object.__class__") = some true
  hm : PySem.W.mroIn K C (.type "object") = some true
def ownB (K : PySem.W.Frag) (x : Str) : Bool :=
  (decide (PySem.W.findIn K (.ref (He.ga K x)) "__class__" = some (some (.builtin "object.__class__"))) && decide (PySem.W.specialIn K (.builtin "object.__class__") "__get__" = some (some (.builtin "getset_descriptor.__get__")))) &&
  (decide (PySem.W.takesIn K (.builtin "object.__class__") = some true) && decide (PySem.W.mroIn K (He.ga K x) (.type "object") = some true))
theorem ownB_ok {K : PySem.W.Frag} {x : Str} (h : ownB K x = true) (c : Cls K (He.ga K x)) : OwnC K (He.ga K x) := by
  unfold ownB at h
  rw [Bool.and_eq_true, Bool.and_eq_true, Bool.and_eq_true] at h
  obtain ⟨⟨h1, h2⟩, h3, h4⟩ := h
  exact ⟨c, of_decide_eq_true h1, of_decide_eq_true h2, of_decide_eq_true h3, of_decide_eq_true h4⟩
def rOwn (C : Addr) : List V → Hp → VK → Prop := fun vs H Q => ∃ a dx fs, vs = [.ref a, .ref C] ∧ H a = some (.ins C dx fs) ∧ Q (.bl true) H
theorem rOwn_ {C : Addr} {vs : List V} {H : Hp} {Q : VK} : rOwn C vs H Q = ∃ a dx fs, vs = [.ref a, .ref C] ∧ H a = some (.ins C dx fs) ∧ Q (.bl true) H := rfl
theorem call_own {X : Cx} {K : PySem.W.Frag} {C : Addr} (hK : X.K = K) (O : OwnC K C) : CallR X (.builtin "isinstance") (rOwn C) := by
  subst hK
  intro pins s σ H vs us Q I r h
  obtain ⟨a, dx, fs, rfl, ha, q⟩ := h
  cases r with
  | cons r1 rr =>
    cases rr with
    | cons r2 rr =>
      cases rr
      cases r2
      exact isinst_ok (b := true) I r1 (.ins ha O.cl O.ha O.hn O.ht O.hm) (by unfold PySem.W.kitOne; rw [if_pos (by exact beq_self_eq_true _)]) fun tk => ⟨.bl true, H, I.tok tk, rfl, q⟩
theorem gFld_ {K : PySem.W.Frag} {ta : TE} {f : Str} {v : V} {σ : L2.St} {H : Hp} {Q : L2.St → Hp → Prop} : Lc.gFld K ta f v σ H Q = ta σ H fun x H1 => ∃ a C dx fs, x = .ref a ∧ Ob.SA K H1 a f C dx fs ∧ Q σ (upd H1 a (.ins C dx (putF f v fs))) := rfl
/-! making an instance -/
theorem tMake_ {C : Addr} {sp : Sp} {dvs : List V} {E : XK} {t : TA} {σ : L2.St} {H : Hp} {Q : VK} : tMake C sp dvs E t σ H Q = t σ H fun vs H1 => ∀ x dx, H1 x = none → H1 dx = none → dx ≠ x →
  sp (.ref x :: (vs ++ dvs)) (upd (upd H1 dx (.own x)) x (.ins C dx [])) (fun v H2 => v = .non ∧ Q (.ref x) H2) E := rfl
end Lo

set_option Elab.async false
set_option linter.all false
set_option maxRecDepth 100000
set_option maxHeartbeats 0
namespace K10H
open PySem PySem.Spec PyProof.Rows L2 Rd Dt Dq Pk Ln K10
def d0 : He.DefD := ⟨("is_whole", none), "is_whole", "is_whole", defArgs (top 16), defBody (top 16), defScope (top 16), [], []⟩
def d1 : He.DefD := ⟨("is_between", none), "is_between", "is_between", defArgs (top 17), defBody (top 17), defScope (top 17), [], []⟩
def d2 : He.DefD := ⟨("number_in", none), "number_in", "number_in", defArgs (top 18), defBody (top 18), defScope (top 18), [], []⟩
def d3 : He.DefD := ⟨("knots_in", none), "knots_in", "knots_in", defArgs (top 10), defBody (top 10), defScope (top 10), [], []⟩
def d4 : He.DefD := ⟨("are_knots_right", none), "are_knots_right", "are_knots_right", defArgs (top 20), defBody (top 20), defScope (top 20), [], []⟩
def d5 : He.DefD := ⟨("has_needless_knot", none), "has_needless_knot", "has_needless_knot", defArgs (top 21), defBody (top 21), defScope (top 21), [], []⟩
def d6 : He.DefD := ⟨("knot_order", none), "knot_order", "knot_order", defArgs (top 8), defBody (top 8), defScope (top 8), [], []⟩
def d7 : He.DefD := ⟨("shape_of_knots", none), "shape_of_knots", "shape_of_knots", defArgs (top 9), defBody (top 9), defScope (top 9), [], []⟩
def d8 : He.DefD := ⟨("shape_knots", none), "shape_knots", "shape_knots", defArgs (top 22), defBody (top 22), defScope (top 22), [], []⟩
def d9 : He.DefD := ⟨("Plan", some "__init__"), "__init__", "Plan.__init__", defArgs (inClass (top 24) 0), defBody (inClass (top 24) 0), defScope (inClass (top 24) 0), [], []⟩
def d10 : He.DefD := ⟨("Plan", some "__eq__"), "__eq__", "Plan.__eq__", defArgs (inClass (top 24) 1), defBody (inClass (top 24) 1), defScope (inClass (top 24) 1), [], []⟩
def d11 : He.DefD := ⟨("Plan", some "comes_before"), "comes_before", "Plan.comes_before", defArgs (inClass (top 24) 4), defBody (inClass (top 24) 4), defScope (inClass (top 24) 4), [], []⟩
def d12 : He.DefD := ⟨("check_plan", none), "check_plan", "check_plan", defArgs (top 25), defBody (top 25), defScope (top 25), [], []⟩
def d13 : He.DefD := ⟨("plan_key", none), "plan_key", "plan_key", defArgs (top 26), defBody (top 26), defScope (top 26), [], []⟩
def d14 : He.DefD := ⟨("plan_in", none), "plan_in", "plan_in", defArgs (top 27), defBody (top 27), defScope (top 27), [], []⟩
def d15 : He.DefD := ⟨("read_plan", none), "read_plan", "read_plan", defArgs (top 28), defBody (top 28), defScope (top 28), [], []⟩
def d16 : He.DefD := ⟨("_law_jug", none), "_law_jug", "_law_jug", defArgs (top 30), defBody (top 30), defScope (top 30), [], []⟩
def d17 : He.DefD := ⟨("_law_take", none), "_law_take", "_law_take", defArgs (top 31), defBody (top 31), defScope (top 31), [], []⟩
def d18 : He.DefD := ⟨("_law_one_of", none), "_law_one_of", "_law_one_of", defArgs (top 32), defBody (top 32), defScope (top 32), [], []⟩
def d19 : He.DefD := ⟨("_law_drawn_cells", none), "_law_drawn_cells", "_law_drawn_cells", defArgs (top 33), defBody (top 33), defScope (top 33), [], []⟩
def d20 : He.DefD := ⟨("_law_drawn_store", none), "_law_drawn_store", "_law_drawn_store", defArgs (top 34), defBody (top 34), defScope (top 34), [], []⟩
def d21 : He.DefD := ⟨("_law_arrows", none), "_law_arrows", "_law_arrows", defArgs (top 35), defBody (top 35), defScope (top 35), [], []⟩
def d22 : He.DefD := ⟨("_law_gone_along", none), "_law_gone_along", "_law_gone_along", defArgs (top 36), defBody (top 36), defScope (top 36), [], []⟩
def d23 : He.DefD := ⟨("_law_knots", none), "_law_knots", "_law_knots", defArgs (top 37), defBody (top 37), defScope (top 37), [], []⟩
def d24 : He.DefD := ⟨("_law_plan", none), "_law_plan", "_law_plan", defArgs (top 38), defBody (top 38), defScope (top 38), [], []⟩
def d25 : He.DefD := ⟨("_law_plan_text", none), "_law_plan_text", "_law_plan_text", defArgs (top 39), defBody (top 39), defScope (top 39), [], []⟩
def d26 : He.DefD := ⟨("_law_drawn_plan", none), "_law_drawn_plan", "_law_drawn_plan", defArgs (top 40), defBody (top 40), defScope (top 40), [], []⟩
def d27 : He.DefD := ⟨("_law_right", none), "_law_right", "_law_right", defArgs (top 41), defBody (top 41), defScope (top 41), [], []⟩
def d28 : He.DefD := ⟨("law", none), "law", "law", defArgs (top 42), defBody (top 42), defScope (top 42), [], []⟩
def fn : List He.DefD := [d0, d1, d2, d3, d4, d5, d6, d7, d8, d9, d10, d11, d12, d13, d14, d15, d16, d17, d18, d19, d20, d21, d22, d23, d24, d25, d26, d27, d28]
def fa : List He.Fa := [.glo "is_whole", .glo "is_between", .glo "number_in", .glo "knots_in", .glo "are_knots_right", .glo "has_needless_knot", .glo "knot_order", .glo "shape_of_knots", .glo "shape_knots", .glo "Plan", .glo "check_plan", .glo "plan_key", .glo "plan_in", .glo "read_plan", .glo "_law_jug", .glo "_law_take", .glo "_law_one_of", .glo "_law_drawn_cells", .glo "_law_drawn_store", .glo "_law_arrows", .glo "_law_gone_along", .glo "_law_knots", .glo "_law_plan", .glo "_law_plan_text", .glo "_law_drawn_plan", .glo "_law_right", .glo "law", .free "len", .free "int", .free "isinstance", .free "abs", .free "divmod", .free "range", .free "max", .free "min", .free "repr", .free "all", .free "list", .free "tuple", .free "str", .free "bool", .free "dict", .free "enumerate", .free "sorted", .free "sum", .free "set", .free "any", .int "MOST_NAMES" (4), .int "FAR" (1000000000000000000000000000000), .str "LETTERS" abc, .str "FIGURES" fig, .cls "Plan", .noat "Plan" "shape", .noat "Plan" "lengths", .noat "Plan" "lost", .noat "Plan" "letters", .mkr "Plan", .meth "Plan" "__eq__", .meth "Plan" "comes_before"]
def ex (K : PySem.W.Frag) : Bool := Sm.sysB K && (Lo.ownB K "Plan" && (decide (PySem.W.findIn K (.ref (He.ga K "Plan")) "__ne__" = some (some (.builtin "object.__ne__")))))
def prs : List Prp.PrD := [⟨"Plan", ⟨("Plan", some "size"), "size", "Plan.size", defArgs (inClass (top 24) 2), defBody (inClass (top 24) 2), defScope (inClass (top 24) 2), [], []⟩⟩, ⟨"Plan", ⟨("Plan", some "text"), "text", "Plan.text", defArgs (inClass (top 24) 3), defBody (inClass (top 24) 3), defScope (inClass (top 24) 3), [], []⟩⟩]
abbrev R : PySem.W.OpenRow := PySem.W.OpenLaw.row PySem.Challenge.rw_arrowcells_k10_orders_of_plans
abbrev hk : PySem.W.Hook := Prp.hookP 6 fa fn prs ex
def ob (s : PySem.W.SharedT) : Prp.AlP := Prp.obsP 6 fa fn prs ex (HandSHeadRun.getT s)
theorem ob_eq (s : PySem.W.SharedT) : ob s = hk.obs s.abs := Prp.obsP_eq (HandSHeadRun.getT_eq s)
abbrev nm : List PySem.Str := ("ArrowError" : PySem.Str) :: ("InvalidNumber" : PySem.Str) :: ("InvalidText" : PySem.Str) :: ("InvalidShape" : PySem.Str) :: ("InvalidLengths" : PySem.Str) :: ("NotAPlan" : PySem.Str) :: ("knot_order" : PySem.Str) :: ("shape_of_knots" : PySem.Str) :: ("knots_in" : PySem.Str) :: ("LETTERS" : PySem.Str) :: ("FIGURES" : PySem.Str) :: ("MOST_NAMES" : PySem.Str) :: ("FAR" : PySem.Str) :: ("is_whole" : PySem.Str) :: ("is_between" : PySem.Str) :: ("number_in" : PySem.Str) :: ("are_knots_right" : PySem.Str) :: ("has_needless_knot" : PySem.Str) :: ("shape_knots" : PySem.Str) :: ("Plan" : PySem.Str) :: ("check_plan" : PySem.Str) :: ("plan_key" : PySem.Str) :: ("plan_in" : PySem.Str) :: ("read_plan" : PySem.Str) :: ("_law_jug" : PySem.Str) :: ("_law_take" : PySem.Str) :: ("_law_one_of" : PySem.Str) :: ("_law_drawn_cells" : PySem.Str) :: ("_law_drawn_store" : PySem.Str) :: ("_law_arrows" : PySem.Str) :: ("_law_gone_along" : PySem.Str) :: ("_law_knots" : PySem.Str) :: ("_law_plan" : PySem.Str) :: ("_law_plan_text" : PySem.Str) :: ("_law_drawn_plan" : PySem.Str) :: ("_law_right" : PySem.Str) :: []
theorem run (w : World) : HandSHeadRun.RunEq R (PySem.W.view R.prog [42]) hk ob 6000 nm w := by
  intro os
  kernel_rfl
end K10H

set_option Elab.async false
set_option linter.all false
set_option maxRecDepth 100000
set_option maxHeartbeats 2000000
/-! a list beside the empty one -/
namespace Le
open PySem PySem.Spec PyProof.Rows L2 Rd
def rNeLE (K : PySem.W.Frag) : R2 := fun x y H Q => ∃ (a b : Addr) (xs : List V), x = .ref a ∧ y = .ref b ∧ SqL K H a xs ∧ SqL K H b [] ∧ Q (.bl (!decide (xs = []))) H
theorem op_neLE {X : Cx} (hu : X.A.units + 64 < cLine) : OpR X (compareOp .NotEq) (rNeLE X.K) := by
  intro pins s σ H x y v u Q I rx ry h
  obtain ⟨a, b, xs, rfl, rfl, ha, hb, q⟩ := h
  cases rx
  cases ry
  obtain ⟨its, rv, tu, _⟩ := I.list ha
  obtain ⟨its2, rv2, tu2, _⟩ := I.list hb
  cases rv2
  have hl := rv.length
  by_cases e : xs = []
  · subst e
    cases rv
    refine SeqAt.RcNeAt.lists (e := fun _ => true) tu.isList tu2.isList rfl (by omega) (fun j _ h2 => (Nat.not_lt_zero _ h2).elim) X.prog X.w _ _ ?_
    exact ⟨.bl false, H, I, rfl, by simpa using q⟩
  · have hn : its ≠ [] := fun z => e (List.eq_nil_of_length_eq_zero (by rw [hl, z]; rfl))
    refine SeqAt.RcNeAt.lists_lengths tu.isList tu2.isList ?_ (by omega) X.prog X.w _ _ ?_
    · have := List.length_pos_iff.mpr hn
      simp only [List.size_toArray, List.length_nil, bne_iff_ne, ne_eq]
      omega
    · exact ⟨.bl true, H, I, rfl, by rw [decide_eq_false e] at q; exact q⟩
def rEqLE (K : PySem.W.Frag) : R2 := fun x y H Q => ∃ (a b : Addr) (xs : List V), x = .ref a ∧ y = .ref b ∧ SqL K H a xs ∧ SqL K H b [] ∧ Q (.bl (decide (xs = []))) H
theorem op_eqLE {X : Cx} (hu : X.A.units + 64 < cLine) : OpR X (compareOp .Eq) (rEqLE X.K) := by
  intro pins s σ H x y v u Q I rx ry h
  obtain ⟨a, b, xs, rfl, rfl, ha, hb, q⟩ := h
  cases rx
  cases ry
  obtain ⟨its, rv, tu, _⟩ := I.list ha
  obtain ⟨its2, rv2, tu2, _⟩ := I.list hb
  cases rv2
  have hl := rv.length
  by_cases e : xs = []
  · subst e
    cases rv
    refine SeqAt.eq_listAt (e := fun _ => true) tu.isList tu2.isList rfl (by omega) (fun j _ h2 => (Nat.not_lt_zero _ h2).elim) ?_
    exact ⟨.bl true, H, I, rfl, by simpa using q⟩
  · have hn : its ≠ [] := fun z => e (List.eq_nil_of_length_eq_zero (by rw [hl, z]; rfl))
    refine SeqAt.eq_list_lengthsAt tu.isList tu2.isList ?_ (by omega) ?_
    · have := List.length_pos_iff.mpr hn
      simp only [List.size_toArray, List.length_nil, bne_iff_ne, ne_eq]
      omega
    · exact ⟨.bl false, H, I, rfl, by rw [decide_eq_false e] at q; exact q⟩
theorem rNeLE_ {K : PySem.W.Frag} {x y : V} {H : Hp} {Q : VK} : rNeLE K x y H Q = ∃ (a b : Addr) (xs : List V), x = .ref a ∧ y = .ref b ∧ SqL K H a xs ∧ SqL K H b [] ∧ Q (.bl (!decide (xs = []))) H := rfl
theorem rEqLE_ {K : PySem.W.Frag} {x y : V} {H : Hp} {Q : VK} : rEqLE K x y H Q = ∃ (a b : Addr) (xs : List V), x = .ref a ∧ y = .ref b ∧ SqL K H a xs ∧ SqL K H b [] ∧ Q (.bl (decide (xs = []))) H := rfl
theorem op_neLEK {X : Cx} {K : PySem.W.Frag} (hK : X.K = K) (hu : X.A.units + 64 < cLine) : OpR X (compareOp .NotEq) (rNeLE K) := by
  subst hK
  exact op_neLE hu
theorem op_eqLEK {X : Cx} {K : PySem.W.Frag} (hK : X.K = K) (hu : X.A.units + 64 < cLine) : OpR X (compareOp .Eq) (rEqLE K) := by
  subst hK
  exact op_eqLE hu
end Le

set_option Elab.async false
set_option linter.all false
set_option maxRecDepth 100000
set_option maxHeartbeats 2000000
/-! ranges with a step -/
namespace Rg
open PySem PySem.Spec PyProof.Rows L2 Rd
section
variable {TA1 : TA} {g : TG} {tb : TS} {D : Ends} {σ : L2.St} {H : Hp} {tt : TT} {te : TE} {vs : List Nat} {Q : VK}
theorem tFor_range3 : tFor (iRng3 TA1) g tb D σ H = TA1 σ H fun vs H1 => ∃ (i j c : Int) (n : Nat), vs = [.int i, .int j, .int c] ∧ RgC i j c n ∧ tFor (fun _ H R => R (Itc i c n) H) g tb D σ H1 := rfl
theorem for_c {lo c : Int} {n : Nat} (Pv : Nat → L2.St → Hp → Prop) (h0 : Pv 0 σ H)
    (hs : ∀ i σ H, i < n → Pv i σ H → g (.int (lo + (i : Nat) * c)) σ H fun σ2 H2 => tb { D with nx := Pv (i + 1), ct := Pv (i + 1), bk := D.nx } σ2 H2) (hd : ∀ σ H, Pv n σ H → D.nx σ H) :
    tFor (fun _ H R => R (Itc lo c n) H) g tb D σ H := for_it walk_rangeC Pv h0 (fun _ _ _ _ _ => trivial) (fun i x σ H H' hi hp hy => by
      obtain ⟨e, hx⟩ := hy
      subst e hx
      exact hs i σ _ hi hp) hd
theorem tLc_range3 : tLc (iRng3 TA1) g tt te vs σ H Q = TA1 σ H fun ws H1 => ∃ (i j c : Int) (n : Nat), ws = [.int i, .int j, .int c] ∧ RgC i j c n ∧ tLc (fun _ H R => R (Itc i c n) H) g tt te vs σ H1 Q := rfl
end
/-! ### list(range(i, j, c)) -/
def rgC (i c : Int) (n : Nat) : List V := (List.range n).map fun k => V.int (i + (k : Nat) * c)
theorem rgC_length (i c : Int) (n : Nat) : (rgC i c n).length = n := by unfold rgC; rw [List.length_map, List.length_range]
theorem vals_rgC {i c : Int} {n : Nat} {acc : Array Value} (h : ItemsOf (fun k v => ∃ t, v = .int (i + k * c) t) acc n) : Vals (rgC i c n) acc.toList := by
  have e : acc.toList.length = n := by rw [Array.length_toList]; exact h.1
  unfold rgC
  rw [← e]
  refine vals_of_get acc.toList _ fun j u hj => ?_
  obtain ⟨t, rfl⟩ := h.2 j u (by rw [← hj, Array.getElem?_toList])
  exact ⟨t, rfl⟩
def tLstC (ta : TA) : TE := fun σ H Q => ta σ H fun vs H1 => ∃ (i j c : Int) (n : Nat), vs = [.int i, .int j, .int c] ∧ RgC i j c n ∧ n ≤ 2 ^ 24 ∧ ∀ q, H1 q = none → Q (.ref q) (upd H1 q (.lst (rgC i c n)))
theorem tLstC_ {ta : TA} {σ : L2.St} {H : Hp} {Q : VK} : tLstC ta σ H Q = ta σ H fun vs H1 => ∃ (i j c : Int) (n : Nat), vs = [.int i, .int j, .int c] ∧ RgC i j c n ∧ n ≤ 2 ^ 24 ∧ ∀ q, H1 q = none → Q (.ref q) (upd H1 q (.lst (rgC i c n))) := rfl
theorem pe_listC {X : Cx} {a b c : Expr} {ta : TA} {p pos p' pos' : Pos} (hcm : X.calm = true) (hl : Gl X "list") (hlm : X.mg "list" = none) (hg : Gl X "range") (hm : X.mg "range" = none) (ha : PA X [a, b, c] ta)
    (hs : starEach [a, b, c] X.env = (false, eval a X.env) :: starEach [b, c] X.env := by rfl) (hpl : (backTo pos (starEach [b, c] X.env)).any (·.1) = false := by rfl)
    (na : starEach [.Call (.Name "range" p) [a, b, c] [] pos] X.env = (false, eval (.Call (.Name "range" p) [a, b, c] [] pos) X.env) :: starEach [] X.env := by rfl) :
    PE X (.Call (.Name "list" p') [.Call (.Name "range" p) [a, b, c] [] pos] [] pos') (tLstC ta) := by
  refine ⟨fun pins s σ H Q I h => ?_⟩
  refine Call_ (ld_blt I hl hlm boot_list (PyProof.Rows.callWith_type1 (args_cons (Call_ (ld_blt I hg hm boot_range (PyProof.Rows.callWith_type1 (thn (ha.run pos pins s σ H _ I h) fun us s1 ⟨vs, H1, I1, r1, q1⟩ => ?_) hs hpl))) na) na))
  obtain ⟨i, j, k, n, e, ⟨c0, c1, c2, c3⟩, hn, q⟩ := q1
  subst e
  cases r1 with
  | cons r rr =>
    cases rr with
    | cons r' rr =>
      cases rr with
      | cons r'' rr =>
        cases rr
        obtain ⟨t, rfl⟩ := r
        obtain ⟨t', rfl⟩ := r'
        obtain ⟨t'', rfl⟩ := r''
        refine call_range_3 c0 (args_nil ?_) (.inl (PyProof.noPylong_small c1))
        have I2 : Inv X pins σ H1 { s1 with heap := s1.heap.push { cls := .type "range", data := .fields #[.int i t, .int j t', .int k t''] } } := I1.kept (t' := s1.toks) fun b o e => Heap.get?_push_of_some _ e
        refine call_list_range (n := n) (I2.ok.hd hcm) (IsRange.new ..) c2 c3 hn fun h' tk acc c' hk e' hi => ?_
        refine ⟨.ref _, upd H1 _ (.lst (rgC i k n)), I2.laid hk (Nat.le_refl _) (show ObjOk X.prog X.w _ _ _ (.lst (rgC i k n)) from ⟨?_, acc.toList, c', vals_rgC hi, ?_⟩), rfl, q _ (I2.hok.fresh (Nat.le_refl _))⟩
        · rw [rgC_length, sizeLine_eq]; omega
        · rw [Array.toArray_toList]; exact e'
/-- how many -/
def cnt (a b c : Nat) : Nat := if a < b then (b - a - 1) / c + 1 else 0
theorem cnt_size {a b c : Nat} (hc : 0 < c) : Builtin.Range.rangeSize a b c = (cnt a b c : Nat) := by
  unfold Builtin.Range.rangeSize cnt
  rw [if_pos (show (c : Int) > 0 by omega)]
  by_cases h : a < b
  · rw [if_pos (show (a : Int) < b by omega), if_pos h, show (b : Int) - a - 1 = ((b - a - 1 : Nat) : Int) by omega]
    rfl
  · rw [if_neg (show ¬ (a : Int) < b by omega), if_neg h]
    rfl
theorem cnt_le (a b c : Nat) : cnt a b c ≤ b := by
  unfold cnt
  split
  · have := Nat.div_le_self (b - a - 1) c
    omega
  · omega
theorem rgc {a b c : Nat} (hc : 0 < c) (ha : a < 1000000) (hb : b < 1000000) (hc' : c < 1000000) : RgC a b c (cnt a b c) := by
  have hl := cnt_le a b c
  refine ⟨by omega, by omega, ?_, cnt_size hc⟩
  unfold Builtin.Range.small
  rw [cnt_size hc]
  simp only [Builtin.Range.rangeFitsLong, Bool.and_eq_true, Bool.or_eq_true, decide_eq_true_eq, beq_iff_eq, show (c : Int) > 0 by omega, if_true]
  omega
/-- the numbers of it -/
theorem cnt_lt {a b c k : Nat} (hc : 0 < c) : k < cnt a b c ↔ a + k * c < b := by
  unfold cnt
  split
  · rw [Nat.lt_succ_iff, Nat.le_div_iff_mul_le hc]
    omega
  · constructor
    · intro h; omega
    · intro h
      have := Nat.zero_le (k * c)
      omega
/-! a range object, walked -/
def iRngV (te : TE) : TI := fun σ H R => te σ H fun x H1 => ∃ (a : Addr) (lo hi : Int), x = .ref a ∧ H1 a = some (.rng lo hi) ∧ (-(2 ^ 62) ≤ lo ∧ lo < 2 ^ 62 ∧ -(2 ^ 62) ≤ hi ∧ hi < 2 ^ 62) ∧ R (Itr lo (hi - lo).toNat) H1
theorem pi_rngV {X : Cx} {tg e : Expr} {te : TE} (he : PE X e te) : PI X tg e (iRngV te) := by
  refine ⟨fun pins s σ H R I h => ?_⟩
  refine thn (he.run pins s σ H _ I h) fun v s1 ⟨x, H1, I1, r1, q1⟩ => ?_
  obtain ⟨a, lo, hi, ex, ea, ⟨h1, h2, h3, h4⟩, q⟩ := q1
  subst ex
  cases r1
  obtain ⟨t, u, v, eo⟩ := I1.hok a _ ea
  refine wpAny_pyIter_range (show IsRange s1.heap a lo hi 1 t u v from eo) (small_one h1 h2 h3 h4) ?_
  refine pi_one (tk := s1.toks) I1 _ (turn_range _ lo (hi - lo).toNat) ?_ q
  have e1 : lo + ((0 : Nat) : Int) * 1 = lo := by simp
  have e2 : (((hi - lo).toNat : Nat) : Int) - ((0 : Nat) : Int) = Builtin.Range.rangeSize lo hi 1 := by rw [rangeSize_one]; split <;> omega
  show IsRangeIter _ _ (lo + ((0 : Nat) : Int) * 1) ((((hi - lo).toNat : Nat) : Int) - ((0 : Nat) : Int)) 1
  rw [e1, e2]
  exact Heap.get?_push_size _ rfl
theorem tLc_rngV {te ta : TE} {g : TG} {tt : TT} {vs : List Nat} {σ : L2.St} {H : Hp} {Q : VK} : tLc (iRngV te) g tt ta vs σ H Q = te σ H fun x H1 => ∃ (a : Addr) (lo hi : Int), x = .ref a ∧ H1 a = some (.rng lo hi) ∧ (-(2 ^ 62) ≤ lo ∧ lo < 2 ^ 62 ∧ -(2 ^ 62) ≤ hi ∧ hi < 2 ^ 62) ∧ tLc (fun _ H R => R (Itr lo (hi - lo).toNat) H) g tt ta vs σ H1 Q := rfl
end Rg

set_option Elab.async false
set_option linter.all false
set_option maxRecDepth 100000
set_option maxHeartbeats 2000000
/-! words of sets -/
namespace Ln
open PySem PySem.Spec PyProof.Rows L2 Rd Dt
def fW (ws : List (Nat × Nat)) (n : Nat) : Bool := ws.any fun w => decide (n = w.1) || (decide (0 < w.2) && (decide (w.1 < n) && decide ((n - w.1) % w.2 = 0)))
def topW (ws : List (Nat × Nat)) : Nat := ws.foldl (fun m w => max m (w.1 + 1)) 0
theorem top_le : ∀ (ws : List (Nat × Nat)) (m : Nat), m ≤ ws.foldl (fun m w => max m (w.1 + 1)) m ∧ ∀ w ∈ ws, w.1 + 1 ≤ ws.foldl (fun m w => max m (w.1 + 1)) m
  | [], m => ⟨Nat.le_refl _, fun _ z => nomatch z⟩
  | w :: ws, m => by
    rw [List.foldl_cons]
    obtain ⟨h1, h2⟩ := top_le ws (max m (w.1 + 1))
    refine ⟨by omega, fun x hx => ?_⟩
    rcases List.mem_cons.mp hx with rfl | hx
    · omega
    · exact h2 x hx
theorem per_W {ws : List (Nat × Nat)} {p : Nat} (hp : 0 < p) (h : ∀ w ∈ ws, w.2 = 0 ∨ w.2 ∣ p) : Per (fW ws) (topW ws) p := ⟨hp, fun n hn => by
  unfold fW
  rw [Bool.eq_iff_iff, List.any_eq_true, List.any_eq_true]
  have key : ∀ w ∈ ws, (decide (n + p = w.1) || (decide (0 < w.2) && (decide (w.1 < n + p) && decide ((n + p - w.1) % w.2 = 0)))) = (decide (n = w.1) || (decide (0 < w.2) && (decide (w.1 < n) && decide ((n - w.1) % w.2 = 0)))) := fun w hw => by
    have h1 := (top_le ws 0).2 w hw
    have h2 : w.1 + 1 ≤ topW ws := h1
    rw [decide_eq_false (show ¬ n + p = w.1 by omega), decide_eq_false (show ¬ n = w.1 by omega), decide_eq_true (show w.1 < n + p by omega), decide_eq_true (show w.1 < n by omega)]
    rcases h w hw with z | ⟨k, z⟩
    · rw [z]; rfl
    · have e : n + p - w.1 = (n - w.1) + w.2 * k := by omega
      rw [e, Nat.add_mul_mod_self_left]
  exact ⟨fun ⟨w, hw, e⟩ => ⟨w, hw, by rw [← key w hw]; exact e⟩, fun ⟨w, hw, e⟩ => ⟨w, hw, by rw [key w hw]; exact e⟩⟩⟩
/-! ### texts -/
def numT (n : Nat) : Str := Str.ofString (toString (n : Int))
def sufT (d : Nat) : Str := if d = 0 then "" else if d = 1 then "+" else "+" ++ numT d
def wordT (w : Nat × Nat) : Str := numT w.1 ++ sufT w.2
def setT (ws : List (Nat × Nat)) : Str := if ws = [] then "none" else Txt.join " " (ws.map wordT)
theorem numT_len {n : Nat} (h : n < 2 ^ 20) : (numT n).length ≤ 21 := by
  have f := Fit.int (i := (n : Int)) (k := 20) (by decide) (by decide) (by rw [Int.natAbs_natCast]; exact h)
  have e : (PyData.shown (.int (n : Int))) = numT n := by unfold PyData.shown; rfl
  rw [← e]
  exact f.sz
theorem sufT_len {n : Nat} (h : n < 2 ^ 20) : (sufT n).length ≤ 22 := by
  unfold sufT
  split
  · decide
  · split
    · decide
    · rw [Str.length_append]
      have := numT_len h
      have e : ("+" : Str).length = 1 := by decide
      omega
theorem wordT_len {w : Nat × Nat} (h1 : w.1 < 2 ^ 20) (h2 : w.2 < 2 ^ 20) : (wordT w).length ≤ 43 := by
  unfold wordT
  rw [Str.length_append]
  have := numT_len h1
  have := sufT_len h2
  omega
/-! ### in the heap -/
inductive WsAt (H : Hp) : List V → List (Nat × Nat) → Prop
  | nil : WsAt H [] []
  | cons {b : Addr} {w : Nat × Nat} {xs : List V} {ws : List (Nat × Nat)} : H b = some (.tup [.int w.1, .int w.2]) → WsAt H xs ws → WsAt H (.ref b :: xs) (w :: ws)
theorem WsAt.keep {H H' : Hp} (hs : ∀ b x y, H b = some (.tup [x, y]) → H' b = some (.tup [x, y])) : ∀ {xs : List V} {ws : List (Nat × Nat)}, WsAt H xs ws → WsAt H' xs ws
  | _, _, .nil => .nil
  | _, _, .cons e h => .cons (hs _ _ _ e) (h.keep hs)
theorem WsAt.up {H H' : Hp} (s : Same H H') {xs : List V} {ws : List (Nat × Nat)} (h : WsAt H xs ws) : WsAt H' xs ws := h.keep fun b x y e => s _ _ e
theorem WsAt.len {H : Hp} : ∀ {xs : List V} {ws : List (Nat × Nat)}, WsAt H xs ws → xs.length = ws.length
  | _, _, .nil => rfl
  | _, _, .cons _ h => congrArg (· + 1) h.len
theorem WsAt.atV {H : Hp} : ∀ {xs : List V} {ws : List (Nat × Nat)}, WsAt H xs ws → ∀ {i : Nat} {v : V}, xs[i]? = some v → ∃ (w : Nat × Nat) (b : Addr), ws[i]? = some w ∧ v = .ref b ∧ H b = some (.tup [.int w.1, .int w.2])
  | _, _, .nil, i, v, h => by cases i <;> cases h
  | _, _, .cons e h, i, v, hv => by
    cases i with
    | zero => cases hv; exact ⟨_, _, rfl, rfl, e⟩
    | succ i => exact h.atV hv
theorem WsAt.append {H : Hp} : ∀ {xs ys : List V} {ws vs : List (Nat × Nat)}, WsAt H xs ws → WsAt H ys vs → WsAt H (xs ++ ys) (ws ++ vs)
  | _, _, _, _, .nil, g => g
  | _, _, _, _, .cons e h, g => .cons e (h.append g)
end Ln

set_option Elab.async false
set_option linter.all false
set_option maxRecDepth 100000
set_option maxHeartbeats 2000000
/-! comprehensions over a text; dicts whose keys are texts -/
namespace Ls
open PySem PySem.Spec PyProof.Rows L2 Rd Dt
section
variable {K : PySem.W.Frag} {H : Hp} {σ : L2.St} {Q : VK} {g : TG} {tt : TT} {te ta : TE} {vs : List Nat}
theorem tLc_str : tLc (iStr ta) g tt te vs σ H Q = ta σ H fun v H1 => ∃ x, v = .str x ∧ tLc (fun _ H R => R (Its x) H) g tt te vs σ H1 Q := rfl
theorem lc_s {z : Str} (Pv : Addr → Nat → Hp → Prop) (h : ∀ D, H D = none → Pv D 0 (upd H D (.lst [])) ∧ (∀ i c H', z.cps.toList[i]? = some c → Pv D i H' → Lturn g tt te vs σ D (.str ⟨#[c]⟩) H' (Pv D (i + 1))) ∧ (∀ H', Pv D z.cps.toList.length H' → Q (.ref D) H')) :
    tLc (fun _ H R => R (Its z) H) g tt te vs σ H Q := fun D hD => lc_it walk_str (Pv D) (h D hD).1 (fun _ _ _ _ => trivial) (fun i x H H' hi hp hy => by
      obtain ⟨e, c, hc, hx⟩ := hy
      subst e hx
      exact (h D hD).2.1 i c _ (by rw [Array.getElem?_toList]; exact hc) hp) (by
      have := (h D hD).2.2
      rwa [Array.length_toList] at this)
theorem sDPut_ {td ty tv : TE} {D : Ends} : sDPut td ty tv D σ H = tv σ H fun v H1 => td σ H1 fun x H2 => ty σ H2 fun y H3 => ∃ a H4, x = .ref a ∧ DPut H3 a y v H4 ∧ D.nx σ H4 := rfl
end
/-- x in a list, within a comprehension -/
theorem op_in_seqK {X : Cx} {K : PySem.W.Frag} (hK : X.K = K) : OpR X (compareOp .In) (rIn K false) := by
  subst hK
  exact op_in_seq
/-- a dict whose keys are these texts -/
def DS (H : Hp) (p : Addr) (ks : List Str) : Prop := ∃ kvs : List (Key × V), H p = some (.dK kvs) ∧ kvs.map (·.1) = ks.map Sum.inr
theorem putK_keys {kvs : List (Key × V)} {ks : List Str} (h : kvs.map (·.1) = ks.map Sum.inr) (c : Str) (v : V) : (putK kvs (Sum.inr c) v).map (·.1) = (if c ∈ ks then ks else ks ++ [c]).map Sum.inr := by
  have ha : (kvs.any fun kv => decide (kv.1 = Sum.inr c)) = decide (c ∈ ks) := by
    have e1 : (kvs.any fun kv => decide (kv.1 = Sum.inr c)) = ((kvs.map (·.1)).any fun k => decide (k = Sum.inr c)) := by
      rw [List.any_map]; rfl
    rw [e1, h, List.any_map]
    rw [Bool.eq_iff_iff, List.any_eq_true, decide_eq_true_eq]
    constructor
    · rintro ⟨x, hx, e⟩
      have : (Sum.inr x : Key) = Sum.inr c := of_decide_eq_true e
      injection this with this
      rw [← this]; exact hx
    · exact fun hx => ⟨c, hx, decide_eq_true rfl⟩
  unfold putK
  rw [ha]
  by_cases hc : c ∈ ks
  · rw [if_pos (decide_eq_true hc), if_pos hc, ← h, List.map_map]
    refine List.map_congr_left fun kv _ => ?_
    show (if kv.1 = Sum.inr c then (kv.1, v) else kv).1 = kv.1
    split <;> rfl
  · rw [if_neg (by rw [decide_eq_false hc]; decide), if_neg hc, List.map_append, h, List.map_append]
    rfl
theorem DS.put {H : Hp} {p : Addr} {ks : List Str} (h : DS H p ks) (hl : ks.length < sizeLine) (c : Str) (v : V) : ∃ H', DPut H p (.str c) v H' ∧ DS H' p (if c ∈ ks then ks else ks ++ [c]) ∧ ∃ o, H' = upd H p o := by
  obtain ⟨kvs, e, hk⟩ := h
  refine ⟨_, DPut.k (k := Sum.inr c) (v := v) e ?_, ⟨_, upd_same, putK_keys hk c v⟩, _, rfl⟩
  have := congrArg List.length hk
  rw [List.length_map, List.length_map] at this
  omega
end Ls

set_option Elab.async false
set_option linter.all false
set_option maxRecDepth 100000
set_option maxHeartbeats 2000000
/-! repr of a list of data; f(k = v, ..) within a try -/
namespace Rl
open PySem PySem.Spec PyProof.Rows L2 Rd Dt Dq
def rReprL (K : PySem.W.Frag) : List V → Hp → VK → Prop := fun vs H Q => ∃ (a : Addr) (xs : List V) (ds : List PyData), vs = [.ref a] ∧ H a = some (.lst xs) ∧ DqAll K H xs ds ∧ PyData.depthAll ds ≤ 49 ∧ wtAll ds ≤ 1000000 ∧ Q (.str (PyData.list ds).shown) H
theorem rReprL_ {K : PySem.W.Frag} {vs : List V} {H : Hp} {Q : VK} : rReprL K vs H Q = ∃ (a : Addr) (xs : List V) (ds : List PyData), vs = [.ref a] ∧ H a = some (.lst xs) ∧ DqAll K H xs ds ∧ PyData.depthAll ds ≤ 49 ∧ wtAll ds ≤ 1000000 ∧ Q (.str (PyData.list ds).shown) H := rfl
theorem call_reprL {X : Cx} {K : PySem.W.Frag} (hK : X.K = K) (S : SysD K) (hG : X.A.guards = some []) (hu : X.A.units + 64 < cLine) : CallR X (.builtin "repr") (rReprL K) := by
  subst hK
  intro pins s σ H xs us Q I rv h
  obtain ⟨a, ys, ds, rfl, ha, hD, hdp, hw, q⟩ := h
  obtain ⟨h1, h2, h3⟩ := DqAll.size ds _ hD
  have hs : (PyData.list ds).showable = true := by rw [PyData.showable, h1]
  have hz' : (PyData.list ds).shown.length ≤ 3 + wtAll ds := by
    rw [PyData.shown]
    have := listText_len_le (PyData.shownAll ds)
    omega
  have hz : (PyData.list ds).shown.length ≤ sizeLine := Nat.le_trans hz' (Nat.le_trans (show 3 + wtAll ds ≤ 1000003 by omega) (by rw [sizeLine_eq]; decide))
  have hd : (PyData.list ds).depth ≤ 50 := by rw [PyData.depth]; omega
  cases rv with
  | cons rx rn =>
    cases rn
    cases rx
    obtain ⟨its, rv, ⟨o, n, ho, hc, _, hd'⟩, _⟩ := I.list (SqL.of ha)
    obtain ⟨as, hr, hn⟩ := DqAll.reads S I ds _ its hD rv
    have nm : sysModules ∉ a :: as := fun z => by
      rcases List.mem_cons.mp z with z | z
      · obtain ⟨o', k1, k2⟩ := S
        have e := I.kIn _ _ k1
        rw [z, ho] at e
        cases e
        exact absurd (Value.type.inj (hc.symm.trans k2)) (by decide)
      · exact hn z
    exact repr_of_reads' (Reads.list ho hc hd' hr) hs (fun _ => nm) hG (by omega) (fun _ _ z => z) (fun h' u tk hk => ⟨.str _, H, I.kept (t' := tk) hk, ⟨u, rfl⟩, q⟩) hz
def tCallKS (sp : Sp) (gV : List V → List V) (m : Nat) (E : L2.St → XK) (tk : TA) : TE := fun σ H Q => tk σ H fun zs H1 => zs.length = m ∧ sp (gV zs) H1 Q (E σ)
theorem tCallKS_ {sp : Sp} {gV : List V → List V} {m : Nat} {E : L2.St → XK} {tk : TA} {σ : L2.St} {H : Hp} {Q : VK} : tCallKS sp gV m E tk σ H Q = tk σ H fun zs H1 => zs.length = m ∧ sp (gV zs) H1 Q (E σ) := rfl
section
variable {X : Cx} {CX : CXT} {k : Nat} {f : Addr} {fd : FuncData} {ps ks : List Str} {sp : Sp} {E : L2.St → XK} {x : Str} {p pos : Pos} {kws : List Keyword} {tk : TA} {g : List Value → List Value} {gV : List V → List V}
theorem pe_callKwS (F : FnOk X.prog X.w X.K X.mg X.base CX k f fd ps sp) (hr : Room k X.A) (hg : Gl X x) (hm : X.mg x = some (.ref f)) (hk : PySem.W.keepIn X.K (.ref f) = true)
    (hb : KBn X.K fd ps 0 ks (fun _ ws => g ws) (fun _ zs => gV zs)) (hx : ∀ σ, PassesAt CX X σ (E σ)) (hkw : PK X kws tk)
    (hall : (backToKw pos (keywordEach kws X.env)).all (·.1.isSome) = true := by rfl) (hks : (backToKw pos (keywordEach kws X.env)).filterMap (·.1) = ks := by rfl)
    (hdb : (x == ("__debug__" : Str)) = false := by decide)
    (hpl : ((backTo pos (starEach [] X.env)).any (·.1) || (backToKw pos (keywordEach kws X.env)).any (·.1.isNone)) = false := by rfl) :
    PE X (.Call (.Name x p) [] kws pos) (tCallKS sp gV ks.length E tk) := by
  constructor
  intro pins s σ H Q I h
  refine wpAny_Call_Name_kw (ld_glob I hg hm ?_ hdb)
  refine PySem.W.callWith_KW0 (h₀ := X.base) I.ok.mod.kin hk hall ?_ hpl
  refine thn (hkw.run pos pins s σ H _ I h) ?_
  rintro ws s2 ⟨zs, H2, I2, rz, l2, q2⟩
  refine ⟨I2.kIn, ?_⟩
  rw [hks]
  have r2 := hb.rel (.nil : Vals [] []) rz
  refine wpAny_call (codeAny_mono (F.run X.A X.stack s2 H2 ⟨[], ks.zip ws⟩ (g ws) (gV zs) Q (E σ) hr I2.env0 (hb.to s2 [] ws I2.kIn rfl (rz.length.symm.trans l2)) r2 q2) fun r s' hq => ?_)
  cases r with
  | error e => exact hx σ pins H2 s2 e s' I2 hq
  | ok fl =>
    cases fl with
    | ret u => exact I2.after hq
    | next => exact False.elim hq
    | brk => exact False.elim hq
    | cont => exact False.elim hq
end
end Rl

set_option Elab.async false
set_option linter.all false
set_option maxRecDepth 100000
set_option maxHeartbeats 2000000
/-! texts of sets, read again -/
namespace Ln
open PySem PySem.Spec PyProof.Rows L2 Rd Dt TL
def nl (n : Nat) : Nat := if n < 10 then 1 else if n < 100 then 2 else if n < 1000 then 3 else 4
def okNum (n : Nat) : Bool :=
  decide ((numT n).length = nl n) && (decide (intText? (numT n) = some (n : Int)) && ((numT n).cps.toList.all (fun c => decide (48 ≤ c) && decide (c ≤ 57)) && (decide ((numT n).length = 1) || !decide ((numT n).cps.toList[0]? = some 48))))
theorem okNum_all : (List.range 1001).all okNum = true := by decide +kernel
theorem okNum_at {n : Nat} (h : n ≤ 1000) : okNum n = true := List.all_eq_true.mp okNum_all n (List.mem_range.mpr (by omega))
theorem numT_at {n : Nat} (h : n ≤ 1000) : (numT n).length = nl n ∧ intText? (numT n) = some (n : Int) ∧ (∀ c ∈ (numT n).cps.toList, 48 ≤ c ∧ c ≤ 57) ∧ ((numT n).length = 1 ∨ (numT n).cps.toList[0]? ≠ some 48) := by
  have := okNum_at h
  unfold okNum at this
  rw [Bool.and_eq_true, Bool.and_eq_true, Bool.and_eq_true, decide_eq_true_eq, decide_eq_true_eq, List.all_eq_true] at this
  obtain ⟨h1, h2, h3, h4⟩ := this
  refine ⟨h1, h2, fun c hc => ?_, ?_⟩
  · have := h3 c hc
    rw [Bool.and_eq_true, decide_eq_true_eq, decide_eq_true_eq] at this
    exact this
  · rw [Bool.or_eq_true, decide_eq_true_eq, Bool.not_eq_true', decide_eq_false_iff_not] at h4
    exact h4
theorem nl_mono {n m : Nat} (h : n ≤ m) : nl n ≤ nl m := by
  unfold nl
  split <;> split <;> (try split) <;> (try split) <;> (try split) <;> (try split) <;> omega
theorem nl_pos (n : Nat) : 1 ≤ nl n ∧ nl n ≤ 4 := by
  unfold nl
  split <;> (try split) <;> (try split) <;> omega
def rowW (w : Nat × Nat) : List Str := if w.2 = 0 then [numT w.1] else if w.2 = 1 then [numT w.1, ""] else [numT w.1, numT w.2]
theorem tl_plus : tl "+" = 43 :: [] := by decide +kernel
theorem tl_spc : tl " " = 32 :: [] := by decide +kernel
theorem rowW_no {w : Nat × Nat} (h1 : w.1 ≤ 1000) (h2 : w.2 ≤ 1000) : ∀ p ∈ rowW w, 43 ∉ tl p := by
  have a1 : 43 ∉ tl (numT w.1) := fun z => by have := (numT_at h1).2.2.1 43 z; omega
  have a2 : 43 ∉ tl (numT w.2) := fun z => by have := (numT_at h2).2.2.1 43 z; omega
  have a3 : 43 ∉ tl "" := by decide +kernel
  intro p hp
  unfold rowW at hp
  split at hp
  · rw [List.mem_singleton.mp hp]; exact a1
  · split at hp <;> rcases List.mem_cons.mp hp with e | hp
    · rw [e]; exact a1
    · rw [List.mem_singleton.mp hp]; exact a3
    · rw [e]; exact a1
    · rw [List.mem_singleton.mp hp]; exact a2
theorem row_join (w : Nat × Nat) : Txt.join "+" (rowW w) = wordT w := by
  rw [join_eq]
  unfold rowW wordT sufT
  split
  · show numT w.1 = numT w.1 ++ ""
    exact (Str.append_empty _).symm
  · split
    · show numT w.1 ++ "+" ++ "" = numT w.1 ++ "+"
      exact Str.append_empty _
    · show numT w.1 ++ "+" ++ numT w.2 = numT w.1 ++ ("+" ++ numT w.2)
      exact Str.append_assoc _ _ _
theorem row_split {w : Nat × Nat} (h1 : w.1 ≤ 1000) (h2 : w.2 ≤ 1000) : Txt.split (wordT w) "+" = rowW w := by
  rw [← row_join]
  exact split_join tl_plus (by decide +kernel) (by unfold rowW; split <;> (try split) <;> simp) (rowW_no h1 h2)
theorem word_no {w : Nat × Nat} (h1 : w.1 ≤ 1000) (h2 : w.2 ≤ 1000) : 32 ∉ tl (wordT w) := by
  have a1 : 32 ∉ tl (numT w.1) := fun z => by have := (numT_at h1).2.2.1 32 z; omega
  have a2 : 32 ∉ tl (numT w.2) := fun z => by have := (numT_at h2).2.2.1 32 z; omega
  have a3 : 32 ∉ tl "" := by decide +kernel
  have a4 : 32 ∉ tl "+" := by decide +kernel
  unfold wordT sufT
  rw [tl_append, List.mem_append]
  rintro (z | z)
  · exact a1 z
  · split at z
    · exact a3 z
    · split at z
      · exact a4 z
      · rw [tl_append, List.mem_append] at z
        rcases z with z | z
        · exact a4 z
        · exact a2 z
theorem set_split {ws : List (Nat × Nat)} (hw : ws ≠ []) (h : ∀ w ∈ ws, w.1 ≤ 1000 ∧ w.2 ≤ 1000) : Txt.split (setT ws) " " = ws.map wordT := by
  unfold setT
  rw [if_neg hw]
  refine split_join tl_spc (by decide +kernel) (by simpa using hw) fun p hp => ?_
  obtain ⟨w, hw', rfl⟩ := List.mem_map.mp hp
  exact word_no (h w hw').1 (h w hw').2
/-- a text of words is not 'none' -/
theorem set_none {ws : List (Nat × Nat)} (hw : ws ≠ []) (h : ∀ w ∈ ws, w.1 ≤ 1000 ∧ w.2 ≤ 1000) : setT ws ≠ "none" := fun z => by
  have e := set_split hw h
  rw [z] at e
  have e2 : Txt.split (Txt.join " " [Str.ofString "none"]) " " = [Str.ofString "none"] := split_join tl_spc (by decide +kernel) (by simp) (fun p hp => by rw [List.mem_singleton.mp hp]; decide +kernel)
  have e3 : Txt.join " " [Str.ofString "none"] = "none" := by rw [join_eq]; rfl
  rw [e3] at e2
  rw [e2] at e
  cases ws with
  | nil => exact hw rfl
  | cons w r =>
    cases r with
    | cons _ _ => simp at e
    | nil =>
      have e4 : wordT w = "none" := by
        have := List.cons.inj e
        exact this.1.symm
      have h1 := numT_at (h w (List.mem_cons_self ..)).1
      have hl := (nl_pos w.1).1
      have hc : 0 < (numT w.1).cps.toList.length := by
        have := h1.1
        show 0 < (numT w.1).cps.toList.length
        rw [Array.length_toList]
        show 0 < (numT w.1).length
        omega
      have hm : (numT w.1).cps.toList[0] ∈ tl (wordT w) := by
        unfold wordT
        rw [tl_append, List.mem_append]
        exact .inl (List.getElem_mem _)
      rw [e4] at hm
      have := h1.2.2.1 _ (List.getElem_mem hc)
      have e5 : tl "none" = [110, 111, 110, 101] := by decide +kernel
      rw [e5] at hm
      simp only [List.mem_cons, List.not_mem_nil, or_false] at hm
      omega
end Ln

set_option Elab.async false
set_option linter.all false
set_option maxRecDepth 100000
set_option maxHeartbeats 4000000
namespace K10
open PySem PySem.Spec PyProof.Rows L2 Rd Dt Dq Pk Ln
local macro_rules | `(tactic| walk_at "rd") => `(tactic| try simp only [↓Rg.tFor_range3, ↓Rg.tLc_range3, ↓Rg.tLstC_, ↓Rg.tLc_rngV, ↓Le.rNeLE_, ↓Le.rEqLE_, ↓Ls.tLc_str, ↓Ls.sDPut_, ↓Rl.rReprL_, ↓Rl.tCallKS_, ↓Ob.tFld_, ↓Ob.sFld_, ↓tVar_, ↓tC_, ↓tM1, ↓tDNewK_, ↓tOp_, ↓tUn_, ↓rI_, ↓rI0_, ↓rU_, ↓eq_ii, ↓ne_ii, ↓eq_ss, ↓ne_ss, ↓eq_bb, ↓ne_bb, ↓tAndV_, ↓tOrV_, ↓tNotV_, ↓tIf_, ↓tTest_, ↓tB_, ↓tAnd_, ↓tOr_, ↓tNot_, ↓tChain_, ↓tNil_, ↓tCons_, ↓tTup_, ↓tLst_, ↓tCB_, ↓tCall_, ↓tSeq_, ↓tNext_, ↓tRet_, ↓tRetN_, ↓tDrop_, ↓tBreak_, ↓tNever_, ↓tIfS_, ↓tAsg_, ↓gName_, ↓gTup_, ↓gCons_, ↓gNil_, ↓gSub_, ↓tPar_, ↓tPar3_, ↓tSl_, ↓tNoPart_, ↓tPart_, ↓tBM_, ↓tFor_range1, ↓tFor_range2, ↓tFor_list, ↓tFor_tup, L2.start, List.headD_cons, List.headD_nil, List.tail_cons, List.map_cons, List.map_nil, List.length_cons, List.length_nil, List.replicate, List.append_nil, List.nil_append, List.cons_append, List.getElem?_cons_zero, List.getElem?_cons_succ, List.set_cons_zero, List.set_cons_succ, Option.some.injEq, V.int.injEq, V.bl.injEq, V.str.injEq, V.ref.injEq, exists_eq_left, exists_eq_left', exists_eq_right, exists_eq, exists_and_left, and_true, true_and, decide_eq_true_eq, Nat.reduceAdd, Nat.reduceSub, Nat.add_zero, Nat.zero_add, List.cons.injEq, Bool.not_eq_true', decide_eq_false_iff_not, eq_self, reduceCtorEq, Bool.false_eq_true, if_true, if_false, ite_true, ite_false, and_self, ↓tLc_range1, ↓tLc_range2, ↓tLc_list, ↓tLc_tup, ↓tYes_, wipe0, wipe1, ↓tCallS_, ↓rIxL_, ↓rIxT_, ↓rSlL_, ↓rCat_, ↓rSetL_, ↓rRep_, ↓rGcd_, ↓tCallK_, ↓gUnl_, ↓tRaise_, decide_true, decide_false, not_true_eq_false, not_false_eq_true, false_and, or_false, false_or, and_false, and_assoc, exists_const, forall_const, forall_eq'])

section
variable {P : Program} {w : World} {K : PySem.W.Frag} {mg : Str → Option Value} {base : Heap}
theorem lg {n : Nat} (h : n < 2 ^ 20) : (n : Int).natAbs.log2 < 1920 := by
  rw [Int.natAbs_natCast]
  by_cases z : n = 0
  · rw [z, Nat.log2_zero]; decide
  · have := (Nat.log2_lt z).mpr h
    omega
theorem lines {s : Str} {n : Nat} (h : s.length ≤ n) (e : n ≤ 1000000) : s.length ≤ sizeLine := Nat.le_trans h (Nat.le_trans e (by rw [sizeLine_eq]; decide))
/-! ### number_in, row_in, rows_in -/
theorem fig_has {c : Nat} (h1 : 48 ≤ c) (h2 : c ≤ 57) : c ∈ fig.cps.toList := by
  have e : fig.cps.toList = [48, 49, 50, 51, 52, 53, 54, 55, 56, 57] := by decide +kernel
  rw [e]
  simp only [List.mem_cons, List.not_mem_nil, or_false]
  omega
theorem fig_dec {c : Nat} (h1 : 48 ≤ c) (h2 : c ≤ 57) : decide (c ∈ fig.cps.toList) = true := decide_eq_true (fig_has h1 h2)
theorem numT_ne {n : Nat} (h : n ≤ 1000) : ¬ numT n = "" := fun z => by
  have h1 := (numT_at h).1
  have h2 := nl_pos n
  rw [z] at h1
  have e : (Str.ofString "").length = 0 := by decide
  omega
def niP (H : Hp) (D : Addr) (j : Nat) (H' : Hp) : Prop := Same H H' ∧ H' D = some (.lst [])
def spNumIn : Sp := fun vs H Q _ => ∃ n h : Nat, vs = [.str (numT n), .int h] ∧ n ≤ h ∧ h ≤ 1000 ∧ ∀ H', Same H H' → Q (.int n) H'
end
end K10

set_option Elab.async false
set_option linter.all false
set_option maxRecDepth 100000
set_option maxHeartbeats 2000000
/-! == and != and in of an own class, with any answer -/
namespace Oc
open PySem PySem.Spec PyProof.Rows L2 Rd Dt Dq Pk
/-- a call of a def somewhere below the running body -/
theorem call_sub {X : Cx} {CX : CXT} {n : Nat} {A : Around} {f : Addr} {fd : FuncData} {ps : List Str} {sp : Sp} {E : XK} {pins : List (Addr × Obj)} {σ : L2.St} {H : Hp} {s : Shared} {vs : List V} {us : List Value} {Q : VK}
    (sb : L2.Sub X n A) (F : FnOk X.prog X.w X.K X.mg X.base CX n f fd ps sp) (hb : Binds X.K fd ps []) (hx : Passes CX X E) (I : Inv X pins σ H s) (rv : Vals vs us) (hsp : sp vs H Q E) :
    wpAny (model X.prog X.w) A (call (.ref f) us) (EP X pins σ Q) X.xe s := by
  have e0 : Env0 X.prog X.w X.K X.mg X.base A X.stack s H := by
    have e := I.env0
    exact ⟨by rw [sb.fr]; exact e.frames, e.mod, e.bs, e.bsz, e.funs, e.frf, e.hok, e.bare⟩
  have hl := F.len _ _ _ _ hsp
  have hlu : us.length = ps.length := rv.length.symm.trans hl
  have hbt := hb s us I.kIn (by rw [List.append_nil]; exact hlu)
  rw [List.append_nil] at hbt
  refine wpAny_call (codeAny_mono (F.run A X.stack s H ⟨us, []⟩ us vs Q E sb.room e0 hbt rv hsp) fun r s' hq => ?_)
  cases r with
  | error e => exact hx pins σ H s e s' I hq
  | ok fl =>
    cases fl with
    | ret w => exact I.after hq
    | next => exact False.elim hq
    | brk => exact False.elim hq
    | cont => exact False.elim hq
/-- the other side: an instance of the class, or a text -/
inductive Oth (K : PySem.W.Frag) (C : Addr) (H : Hp) : V → Prop
  | ins {b dy : Addr} {gs : List (Str × V)} : H b = some (.ins C dy gs) → Oth K C H (.ref b)
  | str (x : Str) : PySem.W.notFirst K C (.type "str") = true → Oth K C H (.str x)
  | int (i : Int) : PySem.W.notFirst K C (.type "int") = true → Oth K C H (.int i)
  | tup {b : Addr} {xs : List V} : PySem.W.notFirst K C (.type "tuple") = true → SqT K H b xs → Oth K C H (.ref b)
theorem Oth.looks {X : Cx} {C : Addr} {pins : List (Addr × Obj)} {σ : L2.St} {H : Hp} {s : Shared} {y : V} {u : Value} (I : Inv X pins σ H s) (o : Oth X.K C H y) (ry : RelV y u) : ∃ tb, PySem.W.Looks (model X.prog X.w) s.heap (typeOf u) tb ∧ PySem.W.notFirst X.K C tb = true := by
  cases o with
  | ins hb =>
    cases ry
    obtain ⟨m, J, _⟩ := ins_get I.hok hb
    obtain ⟨od, J, _⟩ := J.look
    exact ⟨_, J.type, by simp [PySem.W.notFirst]⟩
  | str x h =>
    obtain ⟨t, rfl⟩ := ry
    exact ⟨_, PySem.W.Looks.of_pure rfl, h⟩
  | int x h =>
    obtain ⟨t, rfl⟩ := ry
    exact ⟨_, PySem.W.Looks.of_pure rfl, h⟩
  | tup h hb =>
    cases ry
    obtain ⟨its, _, ⟨o, ho, hc, _⟩, _⟩ := I.tuple hb
    refine ⟨_, ?_, h⟩
    rw [← hc]
    exact (PySem.W.Looks.ld ho).andThen .now
structure EqK (K : PySem.W.Frag) (C f : Addr) : Prop where
  s : PySem.W.findIn K (.ref C) "__eq__" = some (some (.ref f))
  i : PySem.W.isFn K (.ref f) = true
/-- what an own __eq__ answers, used as == and as != -/
def rEqO (K : PySem.W.Frag) (C : Addr) (sp : Sp) : R2 := fun x y H Q => ∃ a dx fs, x = .ref a ∧ H a = some (.ins C dx fs) ∧ Oth K C H y ∧ sp [x, y] H (fun v H' => ∃ b, v = .bl b ∧ Q (.bl b) H') (fun _ _ _ => False)
def rNeO (K : PySem.W.Frag) (C : Addr) (sp : Sp) : R2 := fun x y H Q => ∃ a dx fs, x = .ref a ∧ H a = some (.ins C dx fs) ∧ Oth K C H y ∧ sp [x, y] H (fun v H' => ∃ b, v = .bl b ∧ Q (.bl (!b)) H') (fun _ _ _ => False)
section
variable {X : Cx} {CX : CXT} {n : Nat} {C f : Addr} {fd : FuncData} {ps : List Str} {sp : Sp}
theorem op_eqO {K : PySem.W.Frag} (hK : X.K = K) (hr : Room n X.A) (e : EqK K C f) (F : FnOk X.prog X.w X.K X.mg X.base CX n f fd ps sp) (hb : Binds X.K fd ps []) (hx : Passes CX X (fun _ _ _ => False)) : OpR X (compareOp .Eq) (rEqO K C sp) := by
  subst hK
  intro pins s σ H x y v u Q I rx ry h
  obtain ⟨a, dx, fs, rfl, ha, ho, hsp⟩ := h
  cases rx
  obtain ⟨mA, J, _⟩ := ins_get I.hok ha
  obtain ⟨od, J, _⟩ := J.look
  obtain ⟨tb, lb, nb⟩ := ho.looks I ry
  obtain ⟨m, hF⟩ := I.fr
  show wpAny _ _ (richCompare .Eq (.ref a) u) _ _ _
  refine PySem.W.cmp_K (op := .Eq) hr.units0 hF I.ok.mod.kin J lb nb e.s e.i ?_
  refine wpAny_mono (call_sub ⟨hr, rfl⟩ F hb hx I (.cons (show RelV (.ref a) (.ref a) from rfl) (.cons ry .nil)) hsp) (fun r s' z => ?_) fun _ _ z => z
  obtain ⟨w, H', I', rw', b, rfl, q⟩ := z
  cases (show r = .bool b from rw')
  exact ⟨.bl b, H', I', rfl, q⟩
/-! the != that comes of it -/
theorem ifBoundB {prog : Program} {w : World} {A : Around} {E : Value → Shared → Prop} {s : Shared} {K : PySem.W.Frag} {x C : Addr} {ox : Obj} {od : Option Obj} {name : Str} {id : String} {args : List Value} {Q : Option Value → Shared → Prop} (Z : K.In s.heap) (I : PySem.W.InstAt s.heap x ox C od) (hs : PySem.W.findIn K (.ref C) name = some (some (.builtin id)))
    (hb : ∀ self, bindSpecial (.builtin id) self = pure (.builtin id, [self])) (h : wpAny (model prog w) A (call (.builtin id) (.ref x :: args)) (fun v => Q (some v)) E s) : wpAny (model prog w) A (callSpecialIfBound? (.ref x) name args) Q E s := by
  simp only [callSpecialIfBound?, bindSpecialIfBound?]
  refine wpAny_holding (wpAny_bind (wpAny_bind (wpAny_bind (I.type.here ((PySem.W.looks_findIn Z hs).here ?_)))))
  simp only [hb]
  refine wpAny_bind (wpAny_askSetting (wpAny_ite ?_))
  have goal : wpAny (model prog w) A (call (.builtin id) ([.ref x] ++ args) >>= fun v => pure (some v)) Q E s := wpAny_bind (wpAny_mono h (fun v s' z => wpAny_pure z) fun _ _ z => z)
  split
  · exact wpAny_bind (wpAny_pure (wpAny_pure (by exact goal)))
  · exact wpAny_tryCatch (wpAny_bind (wpAny_pure (wpAny_pure (by exact goal))))
structure NeK (K : PySem.W.Frag) (C f : Addr) : Prop extends EqK K C f where
  ne : PySem.W.findIn K (.ref C) "__ne__" = some (some (.builtin "object.__ne__"))
  ob : PySem.W.mroIn K C (.type "object") = some true
theorem op_neO {K : PySem.W.Frag} (hK : X.K = K) (hr : Room (n + 1) X.A) (e : NeK K C f) (F : FnOk X.prog X.w X.K X.mg X.base CX n f fd ps sp) (hb : Binds X.K fd ps []) (hx : Passes CX X (fun _ _ _ => False)) : OpR X (compareOp .NotEq) (rNeO K C sp) := by
  subst hK
  intro pins s σ H x y v u Q I rx ry h
  obtain ⟨a, dx, fs, rfl, ha, ho, hsp⟩ := h
  cases rx
  obtain ⟨mA, J, _⟩ := ins_get I.hok ha
  obtain ⟨od, J, _⟩ := J.look
  obtain ⟨tb, lb, nb⟩ := ho.looks I ry
  have one : wpAny (model X.prog X.w) X.A (tryCompare (.ref a) "__ne__" u) (fun r s' => ∃ v, r = some v ∧ EP X pins σ Q v s') X.xe s := by
    unfold tryCompare
    refine wpAny_bind (ifBoundB I.kIn J e.ne PySem.F.cmp_object.ne.bind ?_)
    refine wpAny_call (codeAny_call_builtin PySem.F.cmp_object.ne.plain PySem.F.cmpEntry_ne (PySem.W.check_slot PySem.F.cmpKind_ne PySem.F.cmpSplit_ne (J.type.andThen (PySem.W.looks_mroIn I.kIn e.ob)) (PySem.F.cmpArgs_ne _ _) ?_))
    unfold Builtin.«object.__ne__»
    refine wpAny_bind (m := slotArgs "__ne__" 1 _) (wpAny_pure ?_)
    refine wpAny_bind (m := cRoomFor _ _) (wpAny_cRoomFor hr.in1.units0 ?_)
    refine wpAny_bind (m := callSpecialIfBound? (.ref a) (Str.ofString "__eq__") _) (PySem.W.ifBound_K I.kIn J e.s e.i (wpAny_mono (call_sub ⟨hr.in1, rfl⟩ F hb hx I (.cons (show RelV (.ref a) (.ref a) from rfl) (.cons ry .nil)) hsp) (fun r s' z => ?_) fun _ _ z => z))
    obtain ⟨w, H', I', rw', b, rfl, q⟩ := z
    cases (show r = .bool b from rw')
    refine wpAny_bind (m := truthy (.bool b)) (wpAny_truthy_bool (wpAny_pure ?_))
    exact wpAny_pure ⟨.bool (!b), rfl, .bl (!b), H', I', rfl, q⟩
  show wpAny _ _ (richCompare .NotEq (.ref a) u) _ _ _
  unfold richCompare
  simp only [oneThing_ref]
  refine wpAny_holding ?_
  refine wpAny_bind (wpAny_cRoomFor hr.units0 ?_)
  rw [cmpInfo_NotEq]
  dsimp only
  refine wpAny_bind (J.type.here ?_)
  refine wpAny_bind (lb.here ?_)
  split
  · rename_i hne
    have sf : PySem.W.subIn X.K tb (.ref C) = some false := by
      unfold PySem.W.notFirst at nb
      rcases Bool.or_eq_true_iff.mp nb with z | z
      · rw [bne_iff_ne] at hne
        exact absurd (beq_iff_eq.mp z).symm hne
      · exact beq_iff_eq.mp z
    refine wpAny_bind ((PySem.W.looks_subIn I.kIn sf).here ?_)
    rw [if_neg (by decide)]
    refine wpAny_bind (wpAny_mono one (fun r s' z => ?_) fun _ _ z => z)
    obtain ⟨z, rfl, hz⟩ := z
    exact wpAny_pure hz
  · refine wpAny_bind (wpAny_pure ?_)
    rw [if_neg (by decide)]
    refine wpAny_bind (wpAny_mono one (fun r s' z => ?_) fun _ _ z => z)
    obtain ⟨z, rfl, hz⟩ := z
    exact wpAny_pure hz
end
/-! in -/
def rInO (K : PySem.W.Frag) (C : Addr) (sp : Sp) : R2 := fun x y H Q => ∃ a dx fs, y = .ref a ∧ H a = some (.ins C dx fs) ∧ sp [y, x] H (fun v H' => ∃ b, v = .bl b ∧ Q (.bl b) H') (fun _ _ _ => False)
theorem op_inO {X : Cx} {CX : CXT} {n : Nat} {C f : Addr} {fd : FuncData} {ps : List Str} {sp : Sp} {K : PySem.W.Frag} (hK : X.K = K) (hr : Room n X.A) (hs : PySem.W.findIn K (.ref C) "__contains__" = some (some (.ref f))) (hi : PySem.W.isFn K (.ref f) = true) (F : FnOk X.prog X.w X.K X.mg X.base CX n f fd ps sp) (hb : Binds X.K fd ps []) (hx : Passes CX X (fun _ _ _ => False)) : OpR X (compareOp .In) (rInO K C sp) := by
  subst hK
  intro pins s σ H x y v u Q I rx ry h
  obtain ⟨a, dx, fs, rfl, ha, hsp⟩ := h
  cases ry
  obtain ⟨mA, J, _⟩ := ins_get I.hok ha
  obtain ⟨od, J, _⟩ := J.look
  show wpAny _ _ (contains (.ref a) v >>= fun b => pure (Value.bool b)) _ _ _
  refine wpAny_bind ?_
  unfold contains
  refine wpAny_holding ?_
  rw [stdlibNamesSay?_ref]
  refine wpAny_bind (m := specialOf (.ref a) (Str.ofString "__contains__")) (wpAny_bind (J.type.here ((PySem.W.looks_findIn I.kIn hs).here ?_)))
  dsimp only
  rw [if_neg (show ¬ ((some (Value.ref f) == some Value.none) = true) from fun z => by have := eq_of_beq z; injection this with this; cases this)]
  refine wpAny_bind ?_
  unfold callSpecialUnlessNone?
  refine wpAny_bind (m := specialOf (.ref a) (Str.ofString "__contains__")) (wpAny_bind (J.type.here ((PySem.W.looks_findIn I.kIn hs).here ?_)))
  refine wpAny_holding (wpAny_bind ((PySem.W.bind_fn I.kIn _ (beq_iff_eq.mp hi)).here ?_))
  dsimp only
  rw [if_neg (show ¬ ((Value.ref f == Value.none) = true) from fun z => by have := eq_of_beq z; cases this)]
  refine wpAny_bind (wpAny_mono (call_sub ⟨hr, rfl⟩ F hb hx I (.cons (show RelV (.ref a) (.ref a) from rfl) (.cons rx .nil)) hsp) (fun r s' z => ?_) fun _ _ z => z)
  obtain ⟨w, H', I', rw', b, rfl, q⟩ := z
  cases (show r = .bool b from rw')
  refine wpAny_pure ?_
  exact wpAny_truthy_bool (wpAny_pure ⟨.bl b, H', I', rfl, q⟩)
end Oc

set_option Elab.async false
set_option linter.all false
set_option maxRecDepth 100000
set_option maxHeartbeats 2000000
/-! xs[::-1] of a list; an instance made by keywords alone -/
namespace Rv
open PySem PySem.Spec PyProof.Rows L2 Rd Dt Dq Pk
def tRevL (K : PySem.W.Frag) (te tk : TE) : TE := fun σ H Q => te σ H fun x H1 => tk σ H1 fun y H2 => y = .int (-1) ∧ ∃ a xs, x = .ref a ∧ SqL K H2 a xs ∧ ∀ p, H2 p = none → Q (.ref p) (upd H2 p (.lst xs.reverse))
theorem tRevL_ {K : PySem.W.Frag} {te tk : TE} {σ : L2.St} {H : Hp} {Q : VK} : tRevL K te tk σ H Q = te σ H fun x H1 => tk σ H1 fun y H2 => y = .int (-1) ∧ ∃ a xs, x = .ref a ∧ SqL K H2 a xs ∧ ∀ p, H2 p = none → Q (.ref p) (upd H2 p (.lst xs.reverse)) := rfl
theorem vals_rev : ∀ {vs : List V} {us : List Value}, Vals vs us → Vals vs.reverse us.reverse
  | [], _, .nil => .nil
  | v :: vs, _, .cons h r => by
    rw [List.reverse_cons, List.reverse_cons]
    exact (vals_rev r).append (.cons h .nil)
theorem pe_rev {X : Cx} {K : PySem.W.Frag} {e k : Expr} {te tk : TE} {p2 pos : Pos} (hK : X.K = K) (he : PE X e te) (hk : PE X k tk) : PE X (.Subscript e (.Slice none none (some k) p2) pos) (tRevL K te tk) := by
  subst hK
  refine ⟨fun pins s σ H Q I h => ?_⟩
  refine Subscript_ (thn (he.run pins s σ H _ I h) fun v s1 ⟨x, H1, I1, r1, q1⟩ => ?_)
  refine wpAny_Slice ?_
  rw [evalPart_none]
  refine wpAny_pure ?_
  refine wpAny_pure ?_
  rw [evalPart_some]
  refine thn (hk.run pins s1 σ H1 _ I1 q1) fun vk s3 ⟨y, H3, I3, r3, q3⟩ => ?_
  obtain ⟨rfl, a, xs, rfl, hx, q⟩ := q3
  obtain ⟨tk', rfl⟩ := r3
  cases r1
  have I4 : Inv X pins σ H3 { s3 with heap := s3.heap.push { cls := .type "slice", data := .fields #[.none, .none, .int (-1) tk'] } } := I3.kept (t' := s3.toks) fun b ob z => Heap.get?_push_of_some _ z
  obtain ⟨its, r, ht, hz⟩ := I4.list hx
  have hlen := r.length
  show wpAny (model X.prog X.w) X.A (subscriptTail e (.Slice none none (some k) p2) (.ref a) (.ref s3.heap.objs.size)) (EP X pins σ Q) X.xe { s3 with heap := s3.heap.push { cls := .type "slice", data := .fields #[.none, .none, .int (-1) tk'] } }
  refine tail_any (ops := [.ref a, .ref s3.heap.objs.size]) ht.isList.typeIs slot_list_getitem.lookup ?_ (by with_unfolding_all rfl)
  refine wpAny_getItem_list_slice ht.isList (Heap.IsSliceOf.new ..) .none .none (.int (-1) tk') (by decide) ?_ (by rw [List.size_toArray]; omega)
  rw [PySem.W.krv_pick]
  refine ⟨.ref _, _, I4.laid (t' := s3.toks) (o := .lst xs.reverse) (fun b ob z => Heap.get?_push_of_some _ z) (Nat.le_refl _) ?_, rfl, q _ (I4.hok.fresh (Nat.le_refl _))⟩
  exact ⟨by rw [List.length_reverse]; exact hz, _, 0, vals_rev r, Heap.get?_push_size _ rfl⟩
/-- C(k = v, ..) -/
def tMakeKw (C : Addr) (m : Nat) (sp : Sp) (gV : List V → List V) (E : XK) (tk : TA) : TE := fun σ H Q => tk σ H fun zs H2 => zs.length = m ∧ ∀ x dx, H2 x = none → H2 dx = none → dx ≠ x → sp (.ref x :: gV zs) (upd (upd H2 dx (.own x)) x (.ins C dx [])) (fun v H3 => v = .non ∧ Q (.ref x) H3) E
theorem tMakeKw_ {C : Addr} {m : Nat} {sp : Sp} {gV : List V → List V} {E : XK} {tk : TA} {σ : L2.St} {H : Hp} {Q : VK} : tMakeKw C m sp gV E tk σ H Q = tk σ H fun zs H2 => zs.length = m ∧ ∀ x dx, H2 x = none → H2 dx = none → dx ≠ x → sp (.ref x :: gV zs) (upd (upd H2 dx (.own x)) x (.ins C dx [])) (fun v H3 => v = .non ∧ Q (.ref x) H3) E := rfl
section
variable {X : Cx} {CX : CXT} {k : Nat} {f C : Addr} {fd : FuncData} {ps ks : List Str} {sp : Sp} {E : XK} {x : Str} {p pos : Pos} {kws : List Keyword} {tk : TA} {g : List Value → List Value} {gV : List V → List V}
theorem pe_makeKw (M : Mk X.K C f) (F : FnOk X.prog X.w X.K X.mg X.base CX k f fd ps sp) (hr : Room (k + 1) X.A) (hg : Gl X x) (hm : X.mg x = some (.ref C)) (hb : KBn X.K fd ps 1 ks (fun us ws => us ++ g ws) (fun vs zs => vs ++ gV zs)) (hx : Passes CX X E) (hkw : PK X kws tk)
    (hall : (backToKw pos (keywordEach kws X.env)).all (·.1.isSome) = true := by rfl) (hks : (backToKw pos (keywordEach kws X.env)).filterMap (·.1) = ks := by rfl)
    (hdb : (x == ("__debug__" : Str)) = false := by decide)
    (hpl : ((backTo pos (starEach [] X.env)).any (·.1) || (backToKw pos (keywordEach kws X.env)).any (·.1.isNone)) = false := by rfl) :
    PE X (.Call (.Name x p) [] kws pos) (tMakeKw C ks.length sp gV E tk) := by
  constructor
  intro pins s σ H Q I h
  refine wpAny_Call_Name_kw (ld_glob I hg hm ?_ hdb)
  refine PySem.W.callWith_KW0 (h₀ := X.base) I.ok.mod.kin M.kp hall ?_ hpl
  refine thn (hkw.run pos pins s σ H _ I h) ?_
  rintro ws s2 ⟨zs, H2, I2, rz, l2, q2⟩
  refine ⟨I2.kIn, ?_⟩
  rw [hks]
  exact run_makeN (n := 0) (us := []) (vs := []) M F hr hb hx I2 .nil rz rfl l2 q2
end
/-- the keywords' names as given -/
theorem kbn1 {K : PySem.W.Frag} {x qual : Str} {params : Arguments} {body : List Stmt} {scope : Scope} {f : Addr} {fd : FuncData} {ps : List Str} (F : FunD K x qual params body scope [] [] f fd) (ks : List Str)
    (h : ∀ (kV doc pm : Value) (an : Option Addr) (cdv ct : Value) (u : Value) (ws : List Value), ws.length = ks.length → bindArgs (PySem.W.fnOf x qual params body scope .none kV doc pm an cdv ct) ⟨[u], ks.zip ws⟩ = pure (ps.zip (u :: ws))) :
    KBn K fd ps 1 ks (fun us ws => us ++ ws) (fun vs zs => vs ++ zs) := by
  obtain ⟨oc, od, dV, kV, doc, pm, an, cdv, ct, sl, e, lk, hcd, hD, hK⟩ := F.ex
  rcases hD with ⟨_, e2⟩ | ⟨z, _⟩
  · subst e2 e
    refine ⟨fun s us ws Z l1 l2 => ?_, fun r r' => r.append r'⟩
    obtain ⟨u, rfl⟩ : ∃ u, us = [u] := by
      match us, l1 with
      | [u], _ => exact ⟨u, rfl⟩
    exact .of_eq (h kV doc pm an cdv ct u ws l2)
  · exact absurd rfl z
end Rv

set_option Elab.async false
set_option linter.all false
set_option maxRecDepth 100000
set_option maxHeartbeats 2000000
/-! enumerate(tuple); dict(tuple of pairs) -/
namespace En
open PySem PySem.Spec PyProof.Rows L2 Rd Dt Dq Pk
/-- the tuple at a, each item in a new pair -/
def ItU (K : PySem.W.Frag) (a : Addr) : It :=
  ⟨fun i H => ∃ (xs : List V) (x : V), SqT K H a xs ∧ xs[i]? = some x, fun i H v H' => ∃ N x, v = .ref N ∧ H N = none ∧ H' = upd H N (.tup [.int (i : Nat), x]) ∧ ∀ xs, SqT K H a xs → xs[i]? = some x, fun i H => ∃ xs : List V, SqT K H a xs ∧ xs.length = i⟩
theorem turn_tupEnum {P : Program} {w : World} {K : PySem.W.Frag} {elts : List Expr} {kk : Nat} {tpos : Pos} (a e it : Addr) :
    Turn P w K (.Tuple elts kk tpos) (ItU K a) [e, it] e (fun i h => (∃ old, IsEnum h e it ((i : Nat) : Int) old) ∧ h.IsTupleIter it a i ∧ e ≠ it ∧ a ≠ it ∧ e ≠ a) where
  mem := by simp
  obj := fun i h st b hb => by
    obtain ⟨⟨old, h1⟩, ⟨o, g1, g2, g3⟩, _⟩ := st
    rcases (show b = e ∨ b = it by simpa using hb) with z | z
    · subst z; exact ⟨_, h1, fun v q => nomatch q⟩
    · subst z; exact ⟨o, g1, fun v q => by rw [g3] at q; cases q⟩
  keep := fun i h h' st k => by
    obtain ⟨⟨old, h1⟩, h2, h3⟩ := st
    exact ⟨⟨old, k e (by simp) _ h1⟩, h2.at fun o q => k it (by simp) o q, h3⟩
  item := by
    intro X hP hw hK hc i pins s σ H E I hf st hg
    subst hP hw hK
    obtain ⟨⟨old, h1⟩, h2, n1, n2, n3⟩ := st
    obtain ⟨xs, x, hq, hx⟩ := hg
    obtain ⟨us, rv, tp, hz⟩ := I.tuple hq
    obtain ⟨u, hu, ru⟩ := rv.get hx
    have lt1 : e < s.heap.objs.size := Heap.lt_size h1
    have lt2 : it < s.heap.objs.size := by
      obtain ⟨_, q, _⟩ := h2
      exact Heap.lt_size q
    have li : i < us.toArray.size := by
      have := (List.getElem?_eq_some_iff.mp hu).1
      simpa using this
    have D := Draws.tuple (prog := X.prog) (w := X.w) (A := X.A.in1) (show X.A.in1.handled = none from I.ok.hd hc) it a n2 us.toArray
    refine wpAny_pyNext_enum_itemD D h1 ⟨h2, tp⟩ li n1 (by simp [n1, n3]) fun y h' tk py ho hit' hT hsz hk => ?_
    obtain rfl : y = u := by
      have e1 : us.toArray[i]? = some y := py
      rw [List.getElem?_toArray, hu] at e1
      exact (Option.some.inj e1).symm
    refine ⟨_, rfl, wpAny_letOwnedTupleGo_enum (s := { s with heap := h', toks := tk + 1 }) ho fun h2' he' sb => ?_⟩
    have gT : h2'.get? s.heap.objs.size = some { cls := .type "tuple", data := .seq #[.int i tk, y] } := (sb.2 _ (Nat.ne_of_gt lt1)).trans hT
    have fresh := I.hok.fresh (Nat.le_refl s.heap.objs.size)
    have okn : ObjOk X.prog X.w (upd H s.heap.objs.size (.tup [.int (i : Nat), x])) h2' s.heap.objs.size (.tup [.int (i : Nat), x]) := ⟨(show 2 ≤ sizeLine by rw [sizeLine_eq]; decide), [.int i tk, y], .cons ⟨_, rfl⟩ (.cons ru .nil), ⟨_, gT, rfl, _, rfl⟩⟩
    have J : Inv X pins σ (upd H s.heap.objs.size (.tup [.int (i : Nat), x])) { s with heap := h2', toks := tk + 1 } :=
      I.turnedNew (t' := tk + 1) (ch := [e, it]) (fun b ob hb q => (sb.2 b (fun z => hb (by rw [z]; simp))).trans (hk b ob (fun z => hb (by rw [z]; simp)) (fun z => hb (by rw [z]; simp)) q)) hf (Nat.le_refl _) okn
    refine ⟨.ref s.heap.objs.size, _, J, rfl, ⟨_, x, rfl, fresh, rfl, fun ys hy => by rw [I.tuple_inj hy hq]; exact hx⟩, ⟨⟨y, by rw [show ((i + 1 : Nat) : Int) = (i : Int) + 1 by omega]; exact he'⟩, hit'.1.at fun o q => (sb.2 it (Ne.symm n1)).trans q, n1, n2, n3⟩, fun b hb => ?_⟩
    have lb : b < s.heap.objs.size := by
      rcases (show b = e ∨ b = it by simpa using hb) with z | z
      · rw [z]; exact lt1
      · rw [z]; exact lt2
    rw [upd_ne (Nat.ne_of_lt lb)]
    exact (hf b hb).1
  done := by
    intro X hP hw hK hc i pins s σ H E I hf st hg
    subst hP hw hK
    obtain ⟨⟨old, h1⟩, h2, n1, n2, n3⟩ := st
    obtain ⟨xs, hq, hx⟩ := hg
    obtain ⟨us, rv, tp, hz⟩ := I.tuple hq
    obtain ⟨f0, f1, f2, f3, f4, f5⟩ := hf it (by simp)
    have hl := rv.length
    have sz : us.toArray.size = i := by rw [List.size_toArray, ← hl, hx]
    have D := Draws.tuple (prog := X.prog) (w := X.w) (A := X.A.in1) (show X.A.in1.handled = none from I.ok.hd hc) it a n2 us.toArray
    refine wpAny_pyNext_enum_endD D h1 (by rw [sz]; exact ⟨h2, tp⟩) fun h' eb => ⟨rfl, I.turned (t' := s.toks) (fun b o hb q => eb b o hb q) f0 f1 f3 f4 f5⟩
  self := fun A i s Q E st h => by
    obtain ⟨⟨_, h1⟩, _⟩ := st
    exact wpAny_pyIter_enum h1 h
def iEnumT (K : PySem.W.Frag) (ta : TA) : TI := fun σ H R => ta σ H fun vs H1 => ∃ a xs, vs = [.ref a] ∧ SqT K H1 a xs ∧ R (ItU K a) H1
set_option maxHeartbeats 1000000 in
/-- enumerate(v) makes two objects -/
theorem made_enum {v : Value} {ob : Obj} {Hs : Heap → Prop} (B : Begins v ob Hs) :
    Meets (Builtin.«enumerate.__new__» ⟨[.type "enumerate", v], []⟩) (fun _ R s => Hs s.heap ∧
      R (.ok (.ret (.ref (s.heap.push ob).objs.size))) { s with heap := (s.heap.push ob).push { cls := .type "enumerate", data := .fields #[.none, .bool false, .ref s.heap.objs.size, rawInt 0, .none, .none] } }) :=
  .of_wp fun prog w A R s hy => by
    obtain ⟨hp, g, d, tk, os⟩ := s
    obtain ⟨y1, y2⟩ := hy
    have z0 := sub_enumerate
    have it1 : ∀ {A' : Around} {E : Value → Shared → Prop} {Q : Value → Shared → Prop}, Q (.ref hp.objs.size) ⟨hp.push ob, g, d, tk, os⟩ → wpAny (model prog w) A' (pyIter v) Q E ⟨hp, g, d, tk, os⟩ := fun q => B.iter _ _ _ _ ⟨hp, g, d, tk, os⟩ _ y1 q
    wp_walk using it1
    refine wpAny_stack_any fun st => wpAny_pure ?_
    split
    · rename_i c _ _ _ _ _
      cases (c == Value.type "enumerate") <;> (wp_walk using it1; exact ⟨_, rfl, y2⟩)
    · wp_walk using it1
      exact ⟨_, rfl, y2⟩
theorem call_enum {prog : Program} {w : World} {A : Around} {E : Value → Shared → Prop} {s : Shared} {v : Value} {ob : Obj} {Hs : Heap → Prop} {Q : Value → Shared → Prop} (B : Begins v ob Hs) (h1 : Hs s.heap)
    (k : ∀ h', IsEnum h' (s.heap.objs.size + 1) s.heap.objs.size 0 .none → h'.get? s.heap.objs.size = some ob → (∀ b o, s.heap.get? b = some o → h'.get? b = some o) → Q (.ref (s.heap.objs.size + 1)) { s with heap := h' }) :
    wpAny (model prog w) A (call (.type "enumerate") [v]) Q E s := by
  refine callType_new F.called_enumerate (by decide) (F.typeCall_enumerate_1 _) (F.newCall_enumerate_1 _) (fun obj => F.args_object_init_2 obj _) F.entry_enumerate_new (made_enum B) ⟨h1, ?_⟩
  have sz : (s.heap.push ob).objs.size = s.heap.objs.size + 1 := Heap.size_push ..
  have he := Heap.get?_push_size (s.heap.push ob) (o := { cls := .type "enumerate", data := .fields #[.none, .bool false, .ref s.heap.objs.size, rawInt 0, .none, .none] }) rfl
  rw [sz] at he
  show _ ∧ _
  rw [sz]
  exact ⟨⟨_, he, rfl⟩, k _ he (Heap.get?_push_of_some _ (Heap.get?_push_size _ B.free)) fun b o x => Heap.get?_push_of_some _ (Heap.get?_push_of_some _ x)⟩
theorem pi_enumT {X : Cx} {K : PySem.W.Frag} {e : Expr} {ta : TA} {p pos tpos : Pos} {elts : List Expr} {kk : Nat} (hK : X.K = K) (hg : Gl X "enumerate") (hm : X.mg "enumerate" = none) (ha : PA X [e] ta) (hs : starEach [e] X.env = [(false, eval e X.env)] := by rfl) :
    PI X (.Tuple elts kk tpos) (.Call (.Name "enumerate" p) [e] [] pos) (iEnumT K ta) := by
  subst hK
  refine ⟨fun pins s σ H R I h => ?_⟩
  refine Call_ (ld_blt I hg hm boot_enumerate (PyProof.Rows.callWith_type1 (thn (ha.run pos pins s σ H _ I h) fun us s1 ⟨vs, H1, I1, r1, q1⟩ => ?_) hs rfl))
  obtain ⟨a, xs, rfl, hq, q⟩ := q1
  cases r1 with
  | cons r rr =>
    cases rr
    cases r
    obtain ⟨its, rv, tp, hz⟩ := I1.tuple hq
    have la : a < s1.heap.objs.size := by
      obtain ⟨o, ho, _⟩ := tp
      exact Heap.lt_size ho
    refine call_enum (begins_tuple a its.toArray) tp fun h' he hit hk => wpAny_pyIter_enum he ?_
    have I2 : Inv X pins σ H1 { s1 with heap := h' } := I1.kept (t' := s1.toks) hk
    refine ⟨s1.heap.objs.size + 1, [s1.heap.objs.size + 1, s1.heap.objs.size], _, _, H1, rfl, I2, turn_tupEnum a (s1.heap.objs.size + 1) s1.heap.objs.size, ⟨⟨.none, he⟩, ⟨_, hit, rfl, rfl⟩, Nat.succ_ne_self _, Nat.ne_of_lt la, Nat.ne_of_gt (Nat.lt_succ_of_lt la)⟩, fun b hb => ?_, q⟩
    have hle : s1.heap.objs.size ≤ b := by
      rcases (show b = s1.heap.objs.size + 1 ∨ b = s1.heap.objs.size by simpa using hb) with z | z
      · rw [z]; exact Nat.le_succ _
      · rw [z]; exact Nat.le_refl _
    exact I1.fpOk hle (I1.hok.fresh hle)
section
variable {K : PySem.W.Frag} {ta : TA} {g : TG} {tb : TS} {D : Ends} {σ : L2.St} {H : Hp} {tt : TT} {te : TE} {vs : List Nat} {Q : VK}
theorem tFor_enumT : tFor (iEnumT K ta) g tb D σ H = ta σ H fun vs H1 => ∃ a xs, vs = [.ref a] ∧ SqT K H1 a xs ∧ tFor (fun _ H R => R (ItU K a) H) g tb D σ H1 := by
  unfold tFor iEnumT
  rfl
theorem walk_enumT {a : Addr} {xs : List V} : Walk (ItU K a) xs.length (fun H => SqT K H a xs) (fun i H v H' => ∃ N x, v = .ref N ∧ H N = none ∧ H' = upd H N (.tup [.int (i : Nat), x]) ∧ xs[i]? = some x) :=
  ⟨fun i H hi h => ⟨xs, _, h, List.getElem?_eq_getElem hi⟩, fun H h => ⟨xs, h, rfl⟩, fun i H x H' hi h ⟨N, y, e1, e2, e3, e4⟩ => ⟨N, y, e1, e2, e3, e4 xs h⟩⟩
/-- a for over enumerate(tuple), by an invariant -/
theorem for_enumT {a : Addr} {xs : List V} (Pv : Nat → L2.St → Hp → Prop) (h0 : Pv 0 σ H) (hl : ∀ i σ H, i ≤ xs.length → Pv i σ H → SqT K H a xs)
    (hs : ∀ i x σ H N, xs[i]? = some x → Pv i σ H → H N = none → g (.ref N) σ (upd H N (.tup [.int (i : Nat), x])) fun σ2 H2 => tb { D with nx := Pv (i + 1), ct := Pv (i + 1), bk := D.nx } σ2 H2) (hd : ∀ σ H, Pv xs.length σ H → D.nx σ H) :
    tFor (fun _ H R => R (ItU K a) H) g tb D σ H := for_it walk_enumT Pv h0 hl (fun i x σ H H' hi hp hy => by
      obtain ⟨N, y, rfl, hN, rfl, hx⟩ := hy
      exact hs i y σ H N hx hp hN) hd
end
/-! ### plain tuples: the object has no dict of its own -/
def PlO (o : Obj) : Prop := o.cls = .type "tuple" ∧ o.dict = none
def PlT (H : Hp) (a : Addr) (xs : List V) : Prop := ∃ o, H a = some (.frz o (.tup xs)) ∧ PlO o
theorem PlT.sqt {K : PySem.W.Frag} {H : Hp} {a : Addr} {xs : List V} (h : PlT H a xs) : SqT K H a xs := by
  obtain ⟨o, e, _⟩ := h
  exact .inl (.inr ⟨o, e⟩)
theorem PlT.keep {H H' : Hp} {a : Addr} {xs : List V} (h : PlT H a xs) (s : ∀ o, H a = some o → H' a = some o) : PlT H' a xs := by
  obtain ⟨o, e, q⟩ := h
  exact ⟨o, s _ e, q⟩
theorem PlT.new {H : Hp} {a : Addr} {xs : List V} {o : Obj} (h : PlO o) : PlT (upd H a (.frz o (.tup xs))) a xs := ⟨o, upd_same, h⟩
section
variable {X : Cx} {K : PySem.W.Frag}
theorem laid_plain {pins : List (Addr × Obj)} {σ : L2.St} {H : Hp} {s : Shared} {ys : List V} {its : List Value} (I : Inv X pins σ H s) (r : Vals ys its) (z : ys.length ≤ sizeLine) :
    Inv X pins σ (upd H s.heap.objs.size (.frz { cls := .type "tuple", data := .seq its.toArray } (.tup ys))) { s with heap := s.heap.push { cls := .type "tuple", data := .seq its.toArray } } :=
  I.laid (t' := s.toks) (fun b o e => Heap.get?_push_of_some _ e) (Nat.le_refl _) ⟨Heap.get?_push_size _ rfl, z, its, r, IsTup.new _ _⟩
def rTupP (K : PySem.W.Frag) : List V → Hp → VK → Prop := fun xs H Q => ∃ p ys, xs = [.ref p] ∧ SqL K H p ys ∧ ∀ l o, H l = none → PlO o → Q (.ref l) (upd H l (.frz o (.tup ys)))
/-- tuple(list), plain -/
theorem call_tupP (hK : X.K = K) : CallR X (.type "tuple") (rTupP K) := by
  subst hK
  intro pins s σ H xs us Q I r h
  obtain ⟨p, ys, rfl, hq, q⟩ := h
  obtain ⟨u, rfl, rx⟩ := vals1 r
  cases rx
  obtain ⟨its, r', pl, hz⟩ := I.list hq
  have hlen := r'.length
  refine call_tuple_list pl.isList (fun h' kp => ?_) (by simp only [List.size_toArray] <;> omega)
  have I1 : Inv X pins σ H { s with heap := h' } := I.kept (t' := s.toks) kp
  exact ⟨.ref h'.objs.size, _, laid_plain I1 r' hz, rfl, q _ _ (I1.hok.fresh (Nat.le_refl _)) ⟨rfl, rfl⟩⟩
def rCatP : R2 := fun x y H Q => ∃ a b xs ys, x = .ref a ∧ y = .ref b ∧ PlT H a xs ∧ PlT H b ys ∧ xs.length + ys.length ≤ 1000000 ∧
  ∀ p H', PlT H' p (xs ++ ys) → Same H H' → Q (.ref p) H'
theorem line_big : 1000000 ≤ sizeLine := by rw [sizeLine_eq]; decide
/-- t + u, plain -/
theorem op_catP : OpR X (binaryOp .Add) rCatP := by
  intro pins s σ H x y v u Q I rx ry h
  obtain ⟨a, b, xs, ys, rfl, rfl, ha, hb, hz, q⟩ := h
  cases rx
  cases ry
  have hsz := Nat.le_trans hz line_big
  obtain ⟨its, r1, p1, _⟩ := I.tuple (ha.sqt (K := X.K))
  obtain ⟨its2, r2, p2, _⟩ := I.tuple (hb.sqt (K := X.K))
  by_cases hx : xs = []
  · subst hx
    cases r1
    exact cat_tup0 p1 p2 ⟨.ref b, H, I, rfl, q b H (by simpa using hb) fun _ _ e => e⟩
  · refine HT.cat_tup p1 p2 (fun z => hx (r1.nil_iff.mp z)) (fun z => ?_) (fun z => ?_) (by rw [← r1.length, ← r2.length]; exact hsz)
    · have e := r2.nil_iff.mp z
      subst e
      exact ⟨.ref a, H, I, rfl, q a H (by simpa using ha) fun _ _ e => e⟩
    · have hf := I.hok.fresh (Nat.le_refl s.heap.objs.size)
      exact ⟨.ref s.heap.objs.size, _, laid_plain I (r1.append r2) (by rw [List.length_append]; exact hsz), rfl, q _ _ (.new ⟨rfl, rfl⟩) fun b o e => by rw [upd_ne (ne_of_none e hf)]; exact e⟩
def tTupP (t : TA) : TE := fun σ H Q => t σ H fun xs H1 => xs.length ≤ sizeLine ∧ ∀ p o, H1 p = none → PlO o → Q (.ref p) (upd H1 p (.frz o (.tup xs)))
/-- a written tuple, plain -/
theorem pe_tupP {es : List Expr} {t : TA} {pos : Pos} {x1} (h : PA X es t) : PE X (.Tuple es x1 pos) (tTupP t) := by
  refine ⟨fun pins s σ H Q I hq => ?_⟩
  refine wpAny_Tuple_spliced (thn (h.run pos pins s σ H _ I hq) fun us s1 ⟨xs, H1, I1, r, z, q⟩ => ⟨by rw [← r.length]; exact z, ?_⟩)
  exact ⟨.ref s1.heap.objs.size, _, laid_plain I1 r z, rfl, q _ _ (I1.hok.fresh (Nat.le_refl _)) ⟨rfl, rfl⟩⟩
def rSlP : V → Option Int → Option Int → Hp → VK → Prop := fun x lo hi H Q => ∃ a xs, x = .ref a ∧ PlT H a xs ∧ ∀ p H', PlT H' p (cutV xs lo hi) → Same H H' → Q (.ref p) H'
theorem cutV_whole {xs : List V} {lo hi : Option Int} (h : HT.sIx xs.length 0 lo = 0 ∧ HT.sIx xs.length xs.length hi = xs.length) : cutV xs lo hi = xs := by
  unfold cutV
  rw [h.1, h.2, List.drop_zero, Nat.sub_zero, List.take_length]
/-- t[lo:hi], plain -/
theorem sl_tupP : SlR X rSlP := by
  intro pins s σ H x v vl vu lo hi sl Q I rx hs pl pu h
  obtain ⟨a, xs, rfl, hx, q⟩ := h
  cases rx
  obtain ⟨its, r, ht, hz⟩ := I.tuple (hx.sqt (K := X.K))
  have hlen : its.toArray.size = xs.length := by rw [List.size_toArray]; exact r.length.symm
  refine ⟨"tuple", _, PyProof.Rows.slot_tuple_getitem.lookup, ht.typeIs, ?_⟩
  by_cases hw : HT.sIx xs.length 0 lo = 0 ∧ HT.sIx xs.length xs.length hi = xs.length
  · exact getItem_tuple_whole ht hs pl pu (by rw [hlen]; exact hw) ⟨.ref a, H, I, rfl, q a H (by rw [cutV_whole hw]; exact hx) fun _ _ e => e⟩
  · refine HT.getItem_tuple_cut ht hs pl pu (by rw [hlen]; exact hw) ?_ (by rw [hlen]; exact hz)
    rw [hlen]
    have hf := I.hok.fresh (Nat.le_refl s.heap.objs.size)
    exact ⟨.ref s.heap.objs.size, _, laid_plain I ((r.drop (HT.sIx xs.length 0 lo)).take (HT.sIx xs.length xs.length hi - HT.sIx xs.length 0 lo)) (Nat.le_trans (cutV_length xs lo hi) hz), rfl,
      q _ _ (.new ⟨rfl, rfl⟩) fun b o e => by rw [upd_ne (ne_of_none e hf)]; exact e⟩
/-! ### dict(tuple of pairs) -/
def rDictT (K : PySem.W.Frag) : List V → Hp → VK → Prop := fun xs H Q => ∃ (a : Addr) (ps : List Addr) (kvs : List (Key × V)), xs = [.ref a] ∧ PlT H a (ps.map V.ref) ∧ Paired (fun p kv => SqT K H p [kV kv.1, kv.2]) ps kvs ∧ ∀ p, H p = none → Q (.ref p) (upd H p (.dK (mergeK [] kvs)))
theorem pairs_of2 {pins : List (Addr × Obj)} {σ : L2.St} {H : Hp} {s : Shared} (I : Inv X pins σ H s) : ∀ {ps : List Addr} {kvs : List (Key × V)}, Paired (fun p kv => SqT X.K H p [kV kv.1, kv.2]) ps kvs →
    ∃ (prs : List (Key × Value)) (vps : List (Value × Value)), KV kvs prs ∧ prs.length = ps.length ∧ vps.length = ps.length ∧ ∀ (j : Nat) (q : Value × Value), vps[j]? = some q → ∃ (b : Addr) (k : Key), ps[j]? = some b ∧ prs[j]? = some (k, q.2) ∧ IsTup s.heap b #[q.1, q.2] ∧ keyIs k q.1 = true
  | _, _, .nil => ⟨[], [], .nil, rfl, rfl, fun j q e => by simp at e⟩
  | _, _, .cons (a := p) (b := kv) h t => by
    obtain ⟨prs, vps, r, hl, hv, hp⟩ := pairs_of2 I t
    obtain ⟨its, rv, ht, _⟩ := I.tuple h
    obtain ⟨u, y, ei, ru, ry⟩ := vals2 rv
    subst ei
    refine ⟨(kv.1, y) :: prs, (u, y) :: vps, .cons ⟨rfl, ry⟩ r, by rw [List.length_cons, List.length_cons, hl], by rw [List.length_cons, List.length_cons, hv], fun j q e => ?_⟩
    cases j with
    | zero =>
      have e' : (u, y) = q := Option.some.inj e
      subst e'
      exact ⟨p, kv.1, rfl, rfl, ht, kV_is (P := X.prog) (w := X.w) ru⟩
    | succ j =>
      obtain ⟨b, k', e1, e2, e3, e4⟩ := hp j q (by simpa using e)
      exact ⟨b, k', by simpa using e1, by simpa using e2, e3, e4⟩
theorem call_dictT (hK : X.K = K) (hcalm : X.calm = true) : CallR X (.type "dict") (rDictT K) := by
  subst hK
  intro pins s σ H xs us Q I r q
  obtain ⟨a, ps, kvs, rfl, ⟨o, ha, hc, hd⟩, hp, q⟩ := q
  obtain ⟨u, rfl, rx⟩ := vals1 r
  cases rx
  obtain ⟨ho, hz, its, rv, tp⟩ := (show ObjOk X.prog X.w H s.heap a (.frz o (.tup (ps.map V.ref))) from I.hok a _ ha)
  have ei := refs_at rv
  subst ei
  rw [List.length_map] at hz
  obtain ⟨prs, vps, rel, hl, hv, hpr⟩ := pairs_of2 I hp
  obtain ⟨o', ho', _, n, hdat⟩ := tp
  rw [ho] at ho'
  cases ho'
  refine PySem.call_dict_pairs (knd := mixKind X.prog X.w) (kvs := prs) (PairArg.tuple a (ps.map Value.ref).toArray (fun j => (ps[j]?).getD 0) vps) (I.ok.hd hcalm)
    ⟨⟨o, n, ho, hc, hd, hdat⟩, by simp [hv], fun j k v e => ?_⟩ ⟨by rw [hl, hv], fun i key v e => ?_⟩ (by rw [hv]; exact hz) fun h' tk hd' hk => ?_
  · obtain ⟨b, k', e1, e2, e3, e4⟩ := hpr j _ e
    refine ⟨by simp [e1], .inl ?_⟩
    simp only [e1, Option.getD_some]
    exact e3
  · obtain ⟨b, k', e1, e2, e3, e4⟩ := hpr i _ e
    exact ⟨k', e2, e4⟩
  · have hm : (s.heap.objs.size == sysModules) = false := beq_eq_false_iff_ne.mpr (Nat.ne_of_gt I.big)
    have hlen : (mergeK [] kvs).length ≤ sizeLine := by
      refine Nat.le_trans (length_mergeK kvs []) ?_
      rw [List.length_nil, Nat.zero_add, rel.length, hl]
      exact hz
    exact ⟨.ref s.heap.objs.size, upd H s.heap.objs.size (.dK (mergeK [] kvs)), I.laid (t' := tk) (fun b o e => hk b o (by simp) e) (Nat.le_refl _) (show ObjOk X.prog X.w _ _ _ (.dK (mergeK [] kvs)) from ⟨hlen, hm, merged [] prs, KV.merge rel .nil, hd'⟩), rfl, q _ (I.hok.fresh (Nat.le_refl _))⟩
end
end En

set_option Elab.async false
set_option linter.all false
set_option maxRecDepth 100000
set_option maxHeartbeats 2000000
/-! pairs of stores in the heap; texts of stores, read again -/
namespace Sx
open PySem PySem.Spec PyProof.Rows L2 Rd Dt Pk Ln En TL
def L1 (c : Nat) : Str := ⟨#[c]⟩
def nk (n : Nat × Nat) : Key × V := (.inr (L1 n.1), .int n.2)
def ck (c : Nat × Nat) : Key × V := (.inl c.1, .int c.2)
/-! ### pairs in the heap -/
section
variable {K : PySem.W.Frag} {H H' : Hp}
inductive Prs (K : PySem.W.Frag) (H : Hp) : List V → List (Key × V) → Prop
  | nil : Prs K H [] []
  | cons {p : Addr} {kv : Key × V} {xs : List V} {kvs : List (Key × V)} : SqT K H p [kV kv.1, kv.2] → Prs K H xs kvs → Prs K H (.ref p :: xs) (kv :: kvs)
theorem sqt_up (s : Same H H') {a : Addr} {xs : List V} (h : SqT K H a xs) : SqT K H' a xs := by
  rcases h with (h | ⟨o, h⟩) | h
  · exact .inl (.inl (s _ _ h))
  · exact .inl (.inr ⟨o, s _ _ h⟩)
  · exact .inr h
theorem sqt_but {u : Addr} (s : But u H H') {a : Addr} (hn : a ≠ u) {xs : List V} (h : SqT K H a xs) : SqT K H' a xs := by
  rcases h with (h | ⟨o, h⟩) | h
  · exact .inl (.inl (s _ _ hn h))
  · exact .inl (.inr ⟨o, s _ _ hn h⟩)
  · exact .inr h
theorem Prs.keep (s : ∀ a xs, SqT K H a xs → SqT K H' a xs) : ∀ {xs : List V} {kvs : List (Key × V)}, Prs K H xs kvs → Prs K H' xs kvs
  | _, _, .nil => .nil
  | _, _, .cons e h => .cons (s _ _ e) (h.keep s)
theorem Prs.up (s : Same H H') {xs : List V} {kvs : List (Key × V)} (h : Prs K H xs kvs) : Prs K H' xs kvs := h.keep fun _ _ e => sqt_up s e
theorem Prs.len : ∀ {xs : List V} {kvs : List (Key × V)}, Prs K H xs kvs → xs.length = kvs.length
  | _, _, .nil => rfl
  | _, _, .cons _ h => congrArg (· + 1) h.len
theorem Prs.atV : ∀ {xs : List V} {kvs : List (Key × V)}, Prs K H xs kvs → ∀ {i : Nat} {v : V}, xs[i]? = some v → ∃ (kv : Key × V) (b : Addr), kvs[i]? = some kv ∧ v = .ref b ∧ SqT K H b [kV kv.1, kv.2]
  | _, _, .nil, i, v, h => by cases i <;> cases h
  | _, _, .cons e h, i, v, hv => by
    cases i with
    | zero => cases hv; exact ⟨_, _, rfl, rfl, e⟩
    | succ i => exact h.atV hv
theorem Prs.append : ∀ {xs ys : List V} {ws vs : List (Key × V)}, Prs K H xs ws → Prs K H ys vs → Prs K H (xs ++ ys) (ws ++ vs)
  | _, _, _, _, .nil, g => g
  | _, _, _, _, .cons e h, g => .cons e (h.append g)
theorem Prs.take : ∀ {xs : List V} {ws : List (Key × V)}, Prs K H xs ws → ∀ n, Prs K H (xs.take n) (ws.take n)
  | _, _, .nil, n => by cases n <;> exact .nil
  | _, _, .cons e h, n => by
    cases n with
    | zero => exact .nil
    | succ n => exact .cons e (h.take n)
theorem Prs.drop : ∀ {xs : List V} {ws : List (Key × V)}, Prs K H xs ws → ∀ n, Prs K H (xs.drop n) (ws.drop n)
  | _, _, .nil, n => by cases n <;> exact .nil
  | _, _, .cons e h, n => by
    cases n with
    | zero => exact .cons e h
    | succ n => exact h.drop n
theorem Prs.refs : ∀ {xs : List V} {kvs : List (Key × V)}, Prs K H xs kvs → ∃ ps : List Addr, xs = ps.map V.ref ∧ Paired (fun p kv => SqT K H p [kV kv.1, kv.2]) ps kvs
  | _, _, .nil => ⟨[], rfl, .nil⟩
  | _, _, .cons (p := p) e h => by
    obtain ⟨ps, rfl, q⟩ := h.refs
    exact ⟨p :: ps, rfl, .cons e q⟩
/-- a plain tuple of pairs -/
def PrsAt (K : PySem.W.Frag) (H : Hp) (a : Addr) (kvs : List (Key × V)) : Prop := ∃ xs, PlT H a xs ∧ Prs K H xs kvs
theorem PlT.up (s : Same H H') {a : Addr} {xs : List V} (h : PlT H a xs) : PlT H' a xs := h.keep fun o e => s _ _ e
theorem PrsAt.up (s : Same H H') {a : Addr} {kvs : List (Key × V)} (h : PrsAt K H a kvs) : PrsAt K H' a kvs := by
  obtain ⟨xs, h1, h2⟩ := h
  exact ⟨xs, PlT.up s h1, h2.up s⟩
theorem Prs.but {u : Addr} (s : But u H H') {o : HO} (hu : H u = some o) (ho : ∀ xs, o ≠ .tup xs ∧ ∀ ob, o ≠ .frz ob (.tup xs)) {xs : List V} {kvs : List (Key × V)} (h : Prs K H xs kvs) : Prs K H' xs kvs :=
  h.keep fun a ys e => by
    rcases e with (e | ⟨ob, e⟩) | e
    · exact .inl (.inl (s _ _ (ne_of e hu fun z => (ho ys).1 z.symm) e))
    · exact .inl (.inr ⟨ob, s _ _ (ne_of e hu fun z => (ho ys).2 ob z.symm) e⟩)
    · exact .inr e
theorem PrsAt.but {u : Addr} (s : But u H H') {o : HO} (hu : H u = some o) (ho : ∀ xs, o ≠ .tup xs ∧ ∀ ob, o ≠ .frz ob (.tup xs)) {a : Addr} {kvs : List (Key × V)} (h : PrsAt K H a kvs) : PrsAt K H' a kvs := by
  obtain ⟨xs, ⟨ob, h1, h3⟩, h2⟩ := h
  exact ⟨xs, ⟨ob, s _ _ (ne_of h1 hu fun z => (ho xs).2 ob z.symm) h1, h3⟩, h2.but s hu ho⟩
/-! ### as data -/
def kD : Key → PyData
  | .inl i => .int i
  | .inr s => .str s
def vD : V → PyData
  | .int i => .int i
  | _ => .none
def pD (kv : Key × V) : PyData := .tuple [kD kv.1, vD kv.2]
def IntV (kvs : List (Key × V)) : Prop := ∀ kv ∈ kvs, ∃ i, kv.2 = .int i
theorem Prs.dp : ∀ {xs : List V} {kvs : List (Key × V)}, Prs K H xs kvs → IntV kvs → DpAll K H xs (kvs.map pD)
  | _, _, .nil, _ => .nil
  | _, _, .cons (kv := kv) e h, z => by
    refine .cons (.tup e (.cons ?_ (.cons ?_ .nil))) (h.dp fun x hx => z x (List.mem_cons_of_mem _ hx))
    · cases kv.1 with
      | inl i => exact .int i
      | inr s => exact .str s
    · obtain ⟨i, ei⟩ := z kv (List.mem_cons_self ..)
      rw [ei]
      exact .int i
theorem PrsAt.dp {a : Addr} {kvs : List (Key × V)} (h : PrsAt K H a kvs) (z : IntV kvs) : Dp K H (.ref a) (.tuple (kvs.map pD)) := by
  obtain ⟨xs, h1, h2⟩ := h
  exact .tup h1.sqt (h2.dp z)
theorem intV_n (ns : List (Nat × Nat)) : IntV (ns.map nk) := fun kv hk => by
  obtain ⟨n, _, rfl⟩ := List.mem_map.mp hk
  exact ⟨_, rfl⟩
theorem intV_c (ns : List (Nat × Nat)) : IntV (ns.map ck) := fun kv hk => by
  obtain ⟨n, _, rfl⟩ := List.mem_map.mp hk
  exact ⟨_, rfl⟩
end
/-! ### dicts of pairs -/
theorem putK_new {κ : Type} [DecidableEq κ] {kvs : List (κ × V)} {k : κ} {v : V} (h : ∀ x ∈ kvs, x.1 ≠ k) : putK kvs k v = kvs ++ [(k, v)] := by
  unfold putK
  rw [if_neg]
  intro z
  obtain ⟨x, hx, e⟩ := List.any_eq_true.mp z
  exact h x hx (of_decide_eq_true e)
theorem merge_new : ∀ (kvs acc : List (Key × V)), (∀ x ∈ acc, ∀ y ∈ kvs, x.1 ≠ y.1) → kvs.Pairwise (fun x y => x.1 ≠ y.1) → mergeK acc kvs = acc ++ kvs
  | [], acc, _, _ => by rw [List.append_nil]; rfl
  | kv :: kvs, acc, h, p => by
    rw [List.pairwise_cons] at p
    show mergeK (putK acc kv.1 kv.2) kvs = _
    rw [putK_new (fun x hx => h x hx kv (List.mem_cons_self ..)), merge_new kvs _ (fun x hx y hy => ?_) p.2, List.append_assoc]
    · rfl
    · rcases List.mem_append.mp hx with hx | hx
      · exact h x hx y (List.mem_cons_of_mem _ hy)
      · rw [List.mem_singleton.mp hx]
        exact p.1 y hy
def Asc (ns : List (Nat × Nat)) : Prop := ns.Pairwise fun x y => x.1 < y.1
theorem L1_inj {c d : Nat} (h : L1 c = L1 d) : c = d := by
  unfold L1 at h
  injection h with h
  have := congrArg Array.toList h
  simpa using this
theorem merge_n {ns : List (Nat × Nat)} (h : Asc ns) : mergeK [] (ns.map nk) = ns.map nk :=
  merge_new _ [] (fun _ hx => nomatch hx) (List.pairwise_map.mpr (h.imp fun {a b} q z => by
    have : (Sum.inr (L1 a.1) : Key) = .inr (L1 b.1) := z
    injection this with this
    have := L1_inj this
    omega))
theorem merge_c {cs : List (Nat × Nat)} (h : Asc cs) : mergeK [] (cs.map ck) = cs.map ck :=
  merge_new _ [] (fun _ hx => nomatch hx) (List.pairwise_map.mpr (h.imp fun {a b} q z => by
    have : (Sum.inl (a.1 : Int) : Key) = .inl (b.1 : Int) := z
    injection this with this
    omega))
/-- what is told behind a first part -/
def look (ns : List (Nat × Nat)) (k : Nat) : Option Nat := (ns.find? fun n => decide (n.1 = k)).map (·.2)
theorem val_n (ns : List (Nat × Nat)) (k : Nat) : valV (ns.map nk) (.inr (L1 k) : Key) = (look ns k).map fun v : Nat => V.int v := by
  unfold valV look
  rw [List.find?_map, Option.map_map, Option.map_map]
  have : ((fun kv : Key × V => decide (kv.1 = .inr (L1 k))) ∘ nk) = fun n => decide (n.1 = k) := by
    funext n
    show decide ((Sum.inr (L1 n.1) : Key) = .inr (L1 k)) = _
    rw [decide_eq_decide]
    exact ⟨fun z => by injection z with z; exact L1_inj z, fun z => by rw [z]⟩
  rw [this]
  rfl
theorem val_c (ns : List (Nat × Nat)) (k : Int) : valV (ns.map ck) (.inl k : Key) = (if 0 ≤ k then look ns k.toNat else none).map fun v : Nat => V.int v := by
  unfold valV look
  rw [List.find?_map, Option.map_map]
  by_cases h : 0 ≤ k
  · rw [if_pos h, Option.map_map]
    have : ((fun kv : Key × V => decide (kv.1 = .inl k)) ∘ ck) = fun n => decide (n.1 = k.toNat) := by
      funext n
      show decide ((Sum.inl (n.1 : Int) : Key) = .inl k) = _
      rw [decide_eq_decide]
      exact ⟨fun z => by injection z with z; omega, fun z => by rw [z]; congr 1; omega⟩
    rw [this]
    rfl
  · rw [if_neg h]
    have : ((fun kv : Key × V => decide (kv.1 = .inl k)) ∘ ck) = fun n => false := by
      funext n
      show decide ((Sum.inl (n.1 : Int) : Key) = .inl k) = _
      rw [decide_eq_false]
      intro z
      injection z with z
      omega
    rw [this]
    simp
/-! ### texts -/
def nameW (n : Nat × Nat) : Str := L1 n.1 ++ "=" ++ numT n.2
def cellW (c : Nat × Nat) : Str := numT c.1 ++ ">" ++ numT c.2
def namesT (ns : List (Nat × Nat)) : Str := Txt.join " " (ns.map nameW)
def cellsT (cs : List (Nat × Nat)) : Str := if cs = [] then "none" else Txt.join " " (cs.map cellW)
def storeT (ns cs : List (Nat × Nat)) : Str := namesT ns ++ " | " ++ cellsT cs
def lettT (ns : List (Nat × Nat)) : Str := Txt.join "" (ns.map fun n => L1 n.1)
def NmOk (ns : List (Nat × Nat)) : Prop := 1 ≤ ns.length ∧ ns.length ≤ 4 ∧ (∀ n ∈ ns, 97 ≤ n.1 ∧ n.1 ≤ 122 ∧ n.2 ≤ 999) ∧ Asc ns
def ClOk (cs : List (Nat × Nat)) : Prop := cs.length ≤ 500 ∧ (∀ c ∈ cs, 1 ≤ c.1 ∧ c.1 ≤ 999 ∧ c.2 ≤ 999) ∧ Asc cs
theorem pre_second {a b : Nat} {S l : List Nat} (h : l[1]? ≠ some b) : pre (a :: b :: S) l = false := by
  unfold pre
  rw [beq_eq_false_iff_ne]
  intro z
  apply h
  have := congrArg (fun m : List Nat => m[1]?) z
  simp only [List.getElem?_cons_succ, List.getElem?_cons_zero] at this
  rw [List.getElem?_take] at this
  split at this
  · exact this
  · cases this
theorem tl_bar : tl " | " = [32, 124, 32] := by decide +kernel
theorem tl_eq : tl "=" = 61 :: [] := by decide +kernel
theorem tl_gt : tl ">" = 62 :: [] := by decide +kernel
theorem tl_L1 (c : Nat) : tl (L1 c) = [c] := rfl
theorem split_bar {a b : Str} (ha : 124 ∉ tl a) (hb : 124 ∉ tl b) : Txt.split (a ++ " | " ++ b) " | " = [a, b] := by
  refine map_tl_inj ?_
  rw [split_spl _ _ (by rw [tl_bar]; simp) (kind_ok (by decide +kernel)), tl_append, tl_append, tl_bar, List.append_assoc]
  have one : ∀ (p : List Nat) (i : Nat) (r : List Nat), 124 ∉ p → i < p.length → ((p ++ (32 :: r)).drop i)[1]? ≠ some 124 := fun p i r hp hi z => by
    rw [List.getElem?_drop] at z
    by_cases c : i + 1 < p.length
    · rw [List.getElem?_append_left c] at z
      exact hp (List.mem_of_getElem? z)
    · rw [List.getElem?_append_right (by omega), show i + 1 - p.length = 0 by omega] at z
      simp at z
  rw [spl_part (by simp) (fun i hi => pre_second (one _ i _ ha hi)), spl_last (fun i hi => pre_second fun z => hb ?_)]
  · simp
  · rw [List.getElem?_drop] at z
    exact List.mem_of_getElem? z
theorem num_no {n s : Nat} (h : n ≤ 999) (hs : s < 48 ∨ 57 < s) : s ∉ tl (numT n) := fun z => by
  have := (numT_at (show n ≤ 1000 by omega)).2.2.1 s z
  omega
theorem name_split {n : Nat × Nat} (h : 97 ≤ n.1) (h2 : n.2 ≤ 999) : Txt.split (nameW n) "=" = [L1 n.1, numT n.2] := by
  have e : nameW n = Txt.join "=" [L1 n.1, numT n.2] := by rw [join_eq]; rfl
  rw [e]
  refine split_join tl_eq (by decide +kernel) (by simp) fun p hp => ?_
  rcases List.mem_cons.mp hp with rfl | hp
  · rw [tl_L1]; simp; omega
  · rw [List.mem_singleton.mp hp]; exact num_no h2 (by omega)
theorem cell_split {n : Nat × Nat} (h : n.1 ≤ 999) (h2 : n.2 ≤ 999) : Txt.split (cellW n) ">" = [numT n.1, numT n.2] := by
  have e : cellW n = Txt.join ">" [numT n.1, numT n.2] := by rw [join_eq]; rfl
  rw [e]
  refine split_join tl_gt (by decide +kernel) (by simp) fun p hp => ?_
  rcases List.mem_cons.mp hp with rfl | hp
  · exact num_no h (by omega)
  · rw [List.mem_singleton.mp hp]; exact num_no h2 (by omega)
theorem nameW_no {n : Nat × Nat} {s : Nat} (h : 97 ≤ n.1 ∧ n.1 ≤ 122) (h2 : n.2 ≤ 999) (hs : s < 48 ∨ 122 < s) : s ∉ tl (nameW n) := by
  unfold nameW
  rw [tl_append, tl_append, tl_eq, tl_L1]
  intro z
  rcases List.mem_append.mp z with z | z
  · simp at z; omega
  · exact num_no h2 (by omega) z
theorem cellW_no {n : Nat × Nat} {s : Nat} (h : n.1 ≤ 999) (h2 : n.2 ≤ 999) (hs : s < 48 ∨ 122 < s) : s ∉ tl (cellW n) := by
  unfold cellW
  rw [tl_append, tl_append, tl_gt]
  intro z
  rcases List.mem_append.mp z with z | z
  · rcases List.mem_append.mp z with z | z
    · exact num_no h (by omega) z
    · simp at z; omega
  · exact num_no h2 (by omega) z
theorem joinL_mem {S : List Nat} {s : Nat} : ∀ {ps : List (List Nat)}, s ∈ joinL S ps → s ∈ S ∨ ∃ p ∈ ps, s ∈ p
  | [], h => nomatch h
  | [p], h => .inr ⟨p, List.mem_singleton.mpr rfl, h⟩
  | p :: q :: r, h => by
    rcases List.mem_append.mp (show s ∈ p ++ (S ++ joinL S (q :: r)) from h) with h | h
    · exact .inr ⟨p, List.mem_cons_self .., h⟩
    · rcases List.mem_append.mp h with h | h
      · exact .inl h
      · rcases joinL_mem h with h | ⟨x, hx, hs⟩
        · exact .inl h
        · exact .inr ⟨x, List.mem_cons_of_mem _ hx, hs⟩
theorem join_no {y : Str} {ws : List Str} {s : Nat} (hy : s ∉ tl y) (h : ∀ w ∈ ws, s ∉ tl w) : s ∉ tl (Txt.join y ws) := by
  rw [join_eq, tl_join]
  intro z
  rcases joinL_mem z with z | ⟨p, hp, hs⟩
  · exact hy z
  · obtain ⟨w, hw, rfl⟩ := List.mem_map.mp hp
    exact h w hw hs
theorem names_no {ns : List (Nat × Nat)} (h : NmOk ns) : 124 ∉ tl (namesT ns) := join_no (by decide +kernel) fun w hw => by
  obtain ⟨n, hn, rfl⟩ := List.mem_map.mp hw
  have := h.2.2.1 n hn
  exact nameW_no ⟨this.1, this.2.1⟩ this.2.2 (by omega)
theorem cells_no {cs : List (Nat × Nat)} (h : ClOk cs) : 124 ∉ tl (cellsT cs) := by
  unfold cellsT
  split
  · decide +kernel
  · exact join_no (by decide +kernel) fun w hw => by
      obtain ⟨n, hn, rfl⟩ := List.mem_map.mp hw
      have := h.2.1 n hn
      exact cellW_no this.2.1 this.2.2 (by omega)
theorem store_split {ns cs : List (Nat × Nat)} (h : NmOk ns) (g : ClOk cs) : Txt.split (storeT ns cs) " | " = [namesT ns, cellsT cs] := split_bar (names_no h) (cells_no g)
theorem names_split {ns : List (Nat × Nat)} (h : NmOk ns) : Txt.split (namesT ns) " " = ns.map nameW := by
  refine split_join tl_spc (by decide +kernel) (fun z => ?_) fun p hp => ?_
  · have := h.1
    have e := List.map_eq_nil_iff.mp z
    rw [e] at this
    simp at this
  · obtain ⟨n, hn, rfl⟩ := List.mem_map.mp hp
    have := h.2.2.1 n hn
    exact nameW_no ⟨this.1, this.2.1⟩ this.2.2 (by omega)
theorem cells_split {cs : List (Nat × Nat)} (hc : cs ≠ []) (h : ClOk cs) : Txt.split (cellsT cs) " " = cs.map cellW := by
  unfold cellsT
  rw [if_neg hc]
  refine split_join tl_spc (by decide +kernel) (by simpa using hc) fun p hp => ?_
  obtain ⟨n, hn, rfl⟩ := List.mem_map.mp hp
  have := h.2.1 n hn
  exact cellW_no this.2.1 this.2.2 (by omega)
theorem cells_none {cs : List (Nat × Nat)} (hc : cs ≠ []) (h : ClOk cs) : cellsT cs ≠ "none" := fun z => by
  have e := cells_split hc h
  rw [z] at e
  have e2 : Txt.split (Txt.join " " [Str.ofString "none"]) " " = [Str.ofString "none"] := split_join tl_spc (by decide +kernel) (by simp) (fun p hp => by rw [List.mem_singleton.mp hp]; decide +kernel)
  have e3 : Txt.join " " [Str.ofString "none"] = "none" := by rw [join_eq]; rfl
  rw [e3] at e2
  rw [e2] at e
  cases cs with
  | nil => exact hc rfl
  | cons c r =>
    have e4 : Str.ofString "none" = cellW c := by
      rw [List.map_cons] at e
      injection e
    have e5 : 62 ∈ tl (cellW c) := by
      unfold cellW
      rw [tl_append, tl_append, tl_gt]
      simp
    rw [← e4] at e5
    exact absurd e5 (by decide +kernel)
theorem cells_empty {cs : List (Nat × Nat)} (hc : cs ≠ []) (h : ClOk cs) : Txt.join " " (cs.map cellW) ≠ "" := fun z => by
  have e := cells_split hc h
  unfold cellsT at e
  rw [if_neg hc, z] at e
  have e2 : Txt.split (Txt.join " " [Str.ofString ""]) " " = [Str.ofString ""] := split_join tl_spc (by decide +kernel) (by simp) (fun p hp => by rw [List.mem_singleton.mp hp]; decide +kernel)
  have e3 : Txt.join " " [Str.ofString ""] = "" := by rw [join_eq]; rfl
  rw [e3] at e2
  rw [e2] at e
  cases cs with
  | nil => exact hc rfl
  | cons c r =>
    have e4 : Str.ofString "" = cellW c := by
      rw [List.map_cons] at e
      injection e
    have e5 : 62 ∈ tl (cellW c) := by
      unfold cellW
      rw [tl_append, tl_append, tl_gt]
      simp
    rw [← e4] at e5
    exact absurd e5 (by decide +kernel)
/-! ### lengths and signs -/
theorem nlen {n : Nat} (h : n ≤ 999) : (numT n).length ≤ 4 := by
  rw [(numT_at (show n ≤ 1000 by omega)).1]
  exact (nl_pos n).2
theorem nameW_len {n : Nat × Nat} (h : n.2 ≤ 999) : (nameW n).length ≤ 6 := by
  unfold nameW
  rw [Str.length_append, Str.length_append]
  have := nlen h
  have e : ("=" : Str).length = 1 := by decide
  have e1 : (L1 n.1).length = 1 := rfl
  omega
theorem cellW_len {n : Nat × Nat} (h1 : n.1 ≤ 999) (h : n.2 ≤ 999) : (cellW n).length ≤ 9 := by
  unfold cellW
  rw [Str.length_append, Str.length_append]
  have := nlen h
  have := nlen h1
  have e : (">" : Str).length = 1 := by decide
  omega
theorem joinL_len {S : List Nat} {m : Nat} : ∀ {ps : List (List Nat)}, (∀ p ∈ ps, p.length ≤ m) → (joinL S ps).length ≤ ps.length * (m + S.length)
  | [], _ => Nat.zero_le _
  | [p], h => by
    have := h p (List.mem_singleton.mpr rfl)
    show p.length ≤ 1 * (m + S.length)
    omega
  | p :: q :: r, h => by
    have h1 := h p (List.mem_cons_self ..)
    have h2 := joinL_len (S := S) (ps := q :: r) fun x hx => h x (List.mem_cons_of_mem _ hx)
    show (p ++ (S ++ joinL S (q :: r))).length ≤ ((q :: r).length + 1) * (m + S.length)
    rw [List.length_append, List.length_append, Nat.add_mul]
    omega
theorem join_len {y : Str} {ws : List Str} {m : Nat} (h : ∀ w ∈ ws, w.length ≤ m) : (Txt.join y ws).length ≤ ws.length * (m + y.length) := by
  rw [join_eq]
  have e : ∀ z : Str, z.length = (tl z).length := fun z => by unfold tl; rw [Array.length_toList]; rfl
  rw [e, tl_join, e y]
  have := joinL_len (S := tl y) (m := m) (ps := ws.map tl) fun p hp => by
    obtain ⟨w, hw, rfl⟩ := List.mem_map.mp hp
    rw [← e]
    exact h w hw
  rwa [List.length_map] at this
theorem namesT_len {ns : List (Nat × Nat)} (h : NmOk ns) : (namesT ns).length ≤ 28 := by
  have := join_len (y := " ") (ws := ns.map nameW) (m := 6) fun w hw => by
    obtain ⟨n, hn, rfl⟩ := List.mem_map.mp hw
    exact nameW_len (h.2.2.1 n hn).2.2
  rw [List.length_map] at this
  have e : (" " : Str).length = 1 := by decide
  rw [e] at this
  have := h.2.1
  unfold namesT
  omega
theorem cellsT_len {cs : List (Nat × Nat)} (h : ClOk cs) : (cellsT cs).length ≤ 5004 ∧ (Txt.join " " (cs.map cellW)).length ≤ 5000 := by
  have := join_len (y := " ") (ws := cs.map cellW) (m := 9) fun w hw => by
    obtain ⟨n, hn, rfl⟩ := List.mem_map.mp hw
    exact cellW_len (h.2.1 n hn).2.1 (h.2.1 n hn).2.2
  rw [List.length_map] at this
  have e : (" " : Str).length = 1 := by decide
  rw [e] at this
  have := h.1
  refine ⟨?_, by omega⟩
  unfold cellsT
  split
  · have : ("none" : Str).length = 4 := by decide
    omega
  · omega
theorem storeT_len {ns cs : List (Nat × Nat)} (h : NmOk ns) (g : ClOk cs) : (storeT ns cs).length ≤ 5040 := by
  unfold storeT
  rw [Str.length_append, Str.length_append]
  have := namesT_len h
  have := (cellsT_len g).1
  have e : (" | " : Str).length = 3 := by decide
  omega
theorem lettT_len {ns : List (Nat × Nat)} (h : NmOk ns) : (lettT ns).length ≤ 4 := by
  have := join_len (y := "") (ws := ns.map fun n => L1 n.1) (m := 1) fun w hw => by
    obtain ⟨n, hn, rfl⟩ := List.mem_map.mp hw
    exact Nat.le_refl _
  rw [List.length_map] at this
  have e : ("" : Str).length = 0 := by decide
  rw [e] at this
  have := h.2.1
  unfold lettT
  omega
theorem namesT_ch {ns : List (Nat × Nat)} (h : NmOk ns) : ∀ c ∈ tl (namesT ns), c < 0x110000 := fun c hc => by
  refine Decidable.by_contra fun z => ?_
  refine join_no ?_ (fun w hw => ?_) hc
  · rw [show tl " " = [32] from by decide +kernel]; simp; omega
  · obtain ⟨n, hn, rfl⟩ := List.mem_map.mp hw
    have := h.2.2.1 n hn
    exact nameW_no ⟨this.1, this.2.1⟩ this.2.2 (by omega)
theorem cellsT_ch {cs : List (Nat × Nat)} (h : ClOk cs) : ∀ c ∈ tl (cellsT cs), c < 0x110000 := fun c hc => by
  refine Decidable.by_contra fun z => ?_
  unfold cellsT at hc
  split at hc
  · rw [show tl "none" = [110, 111, 110, 101] from by decide +kernel] at hc
    simp at hc
    omega
  · refine join_no ?_ (fun w hw => ?_) hc
    · rw [show tl " " = [32] from by decide +kernel]; simp; omega
    · obtain ⟨n, hn, rfl⟩ := List.mem_map.mp hw
      have := h.2.1 n hn
      exact cellW_no this.2.1 this.2.2 (by omega)
theorem storeT_ch {ns cs : List (Nat × Nat)} (h : NmOk ns) (g : ClOk cs) : ∀ c ∈ tl (storeT ns cs), c < 0x110000 := fun c hc => by
  unfold storeT at hc
  rw [tl_append, tl_append, tl_bar] at hc
  rcases List.mem_append.mp hc with hc | hc
  · rcases List.mem_append.mp hc with hc | hc
    · exact namesT_ch h c hc
    · simp at hc; omega
  · exact cellsT_ch g c hc
theorem lettT_ch {ns : List (Nat × Nat)} (h : NmOk ns) : ∀ c ∈ tl (lettT ns), c < 0x110000 := fun c hc => by
  refine Decidable.by_contra fun z => ?_
  refine join_no ?_ (fun w hw => ?_) hc
  · rw [show tl "" = [] from by decide +kernel]; simp
  · obtain ⟨n, hn, rfl⟩ := List.mem_map.mp hw
    have := h.2.2.1 n hn
    rw [tl_L1]; simp; omega
/-! ### isinstance of a tuple -/
def rIsT (K : PySem.W.Frag) : List V → Hp → VK → Prop := fun vs H Q => ∃ a xs, vs = [.ref a, .ty "tuple"] ∧ SqT K H a xs ∧ Q (.bl true) H
theorem rIsT_ {K : PySem.W.Frag} {vs : List V} {H : Hp} {Q : VK} : rIsT K vs H Q = ∃ a xs, vs = [.ref a, .ty "tuple"] ∧ SqT K H a xs ∧ Q (.bl true) H := rfl
theorem call_isT {X : Cx} {K : PySem.W.Frag} (hK : X.K = K) : CallR X (.builtin "isinstance") (rIsT K) := by
  subst hK
  intro pins s σ H vs us Q I r h
  obtain ⟨a, xs, rfl, ha, q⟩ := h
  cases r with
  | cons r1 rr =>
    cases rr with
    | cons r2 rr =>
      cases rr
      cases r1
      cases r2
      obtain ⟨its, _, ⟨o, h1, h2, _⟩, _⟩ := I.tuple ha
      exact PySem.W.kia_one (b := true) PySem.W.kitx_tuple I.kIn ⟨o, h1, h2⟩ (by rfl) (fun z => nomatch z) fun tk => ⟨.bl true, H, I.tok tk, rfl, q⟩
end Sx

set_option Elab.async false
set_option linter.all false
set_option maxRecDepth 100000
set_option maxHeartbeats 2000000
/-! readings; o.m(k = v) -/
namespace Sy
open PySem PySem.Spec PyProof.Rows L2 Rd Dt Pk Ln En Sx
section
variable {K : PySem.W.Frag} {σ : L2.St} {H : Hp} {Q : VK} {td ty tv te : TE} {t : TA}
theorem tTupP_ : tTupP t σ H Q = t σ H fun xs H1 => xs.length ≤ sizeLine ∧ ∀ p o, H1 p = none → PlO o → Q (.ref p) (upd H1 p (.frz o (.tup xs))) := rfl
theorem rTupP_ {xs : List V} : rTupP K xs H Q = ∃ p ys, xs = [.ref p] ∧ SqL K H p ys ∧ ∀ l o, H l = none → PlO o → Q (.ref l) (upd H l (.frz o (.tup ys))) := rfl
theorem rCatP_ {x y : V} : rCatP x y H Q = ∃ a b xs ys, x = .ref a ∧ y = .ref b ∧ PlT H a xs ∧ PlT H b ys ∧ xs.length + ys.length ≤ 1000000 ∧ ∀ p H', PlT H' p (xs ++ ys) → Same H H' → Q (.ref p) H' := rfl
theorem rSlP_ {x : V} {lo hi : Option Int} : rSlP x lo hi H Q = ∃ a xs, x = .ref a ∧ PlT H a xs ∧ ∀ p H', PlT H' p (cutV xs lo hi) → Same H H' → Q (.ref p) H' := rfl
theorem rDictT_ {xs : List V} : rDictT K xs H Q = ∃ (a : Addr) (ps : List Addr) (kvs : List (Key × V)), xs = [.ref a] ∧ PlT H a (ps.map V.ref) ∧ Paired (fun p kv => SqT K H p [kV kv.1, kv.2]) ps kvs ∧ ∀ p, H p = none → Q (.ref p) (upd H p (.dK (mergeK [] kvs))) := rfl
theorem tDGet_ : tDGet td ty σ H Q = td σ H fun x H1 => ty σ H1 fun y H2 => ∃ a v, x = .ref a ∧ DGet H2 a y (some v) ∧ Q v H2 := rfl
theorem tDGet1_ : tDGet1 td ty σ H Q = td σ H fun x H1 => ∃ a, x = .ref a ∧ IsD H1 a ∧ ty σ H1 fun y H2 => ∃ o, DGet H2 a y o ∧ Q (o.getD .non) H2 := rfl
theorem tDIn_ : tDIn ty td σ H Q = ty σ H fun y H1 => td σ H1 fun x H2 => ∃ a o, x = .ref a ∧ DGet H2 a y o ∧ Q (.bl o.isSome) H2 := rfl
theorem tDNotIn_ : tDNotIn ty td σ H Q = ty σ H fun y H1 => td σ H1 fun x H2 => ∃ a o, x = .ref a ∧ DGet H2 a y o ∧ Q (.bl (!o.isSome)) H2 := rfl
theorem tMeth_ {C : Addr} {m : Str} {sp : Sp} {dvs : List V} {E : XK} : tMeth C m sp dvs E te t σ H Q = te σ H fun x H1 => ∃ a dx fs, x = .ref a ∧ H1 a = some (.ins C dx fs) ∧ fs.lookup m = none ∧ t σ H1 fun vs H2 => sp (x :: (vs ++ dvs)) H2 Q E := rfl
theorem rSortedS_ {vs : List V} : rSortedS K vs H Q = ∃ (a : Addr) (xs : List Str), vs = [V.ref a] ∧ SqL K H a (xs.map V.str) ∧ xs.length < 64 ∧ ∀ (ys : List Str) (p : Addr), ys.Perm xs → sortedS ys = true → H p = none → Q (.ref p) (upd H p (.lst (ys.map V.str))) := rfl
def tMethKw (C : Addr) (m : Str) (n : Nat) (sp : Sp) (E : XK) (ta : TE) (tk : TA) : TE := fun σ H Q => ta σ H fun x H1 => ∃ a dx fs, x = .ref a ∧ H1 a = some (.ins C dx fs) ∧ fs.lookup m = none ∧ tk σ H1 fun zs H2 => zs.length = n ∧ sp (x :: zs) H2 Q E
theorem tMethKw_ {C : Addr} {m : Str} {n : Nat} {sp : Sp} {E : XK} {tk : TA} : tMethKw C m n sp E te tk σ H Q = te σ H fun x H1 => ∃ a dx fs, x = .ref a ∧ H1 a = some (.ins C dx fs) ∧ fs.lookup m = none ∧ tk σ H1 fun zs H2 => zs.length = n ∧ sp (x :: zs) H2 Q E := rfl
end
/-- a for over a tuple, by an invariant -/
theorem for_t {K : PySem.W.Frag} {a : Addr} {xs : List V} {g : TG} {tb : TS} {D : Ends} {σ : L2.St} {H : Hp} (Pv : Nat → L2.St → Hp → Prop) (h0 : Pv 0 σ H) (hl : ∀ i σ H, i ≤ xs.length → Pv i σ H → SqT K H a xs)
    (hs : ∀ i x σ H, xs[i]? = some x → Pv i σ H → g x σ H fun σ2 H2 => tb { D with nx := Pv (i + 1), ct := Pv (i + 1), bk := D.nx } σ2 H2) (hd : ∀ σ H, Pv xs.length σ H → D.nx σ H) : tFor (fun _ H R => R (Itt K a) H) g tb D σ H :=
  for_it walk_tup Pv h0 hl (fun i x σ H H' hi hp hy => by
    obtain ⟨rfl, hx⟩ := hy
    exact hs i x σ _ hx hp) hd
theorem tFor_enumL {K : PySem.W.Frag} {ta : TA} {g : TG} {tb : TS} {D : Ends} {σ : L2.St} {H : Hp} : tFor (iEnum K ta) g tb D σ H = ta σ H fun vs H1 => ∃ a xs, vs = [.ref a] ∧ SqL K H1 a xs ∧ tFor (fun _ H R => R (Ite K a) H) g tb D σ H1 := by
  unfold tFor iEnum
  rfl
/-- a for over enumerate(list), by an invariant -/
theorem for_enumL {K : PySem.W.Frag} {a : Addr} {xs : List V} {g : TG} {tb : TS} {D : Ends} {σ : L2.St} {H : Hp} (Pv : Nat → L2.St → Hp → Prop) (h0 : Pv 0 σ H) (hl : ∀ i σ H, i ≤ xs.length → Pv i σ H → SqL K H a xs)
    (hs : ∀ i x σ H N, xs[i]? = some x → Pv i σ H → H N = none → g (.ref N) σ (upd H N (.tup [.int (i : Nat), x])) fun σ2 H2 => tb { D with nx := Pv (i + 1), ct := Pv (i + 1), bk := D.nx } σ2 H2) (hd : ∀ σ H, Pv xs.length σ H → D.nx σ H) :
    tFor (fun _ H R => R (Ite K a) H) g tb D σ H := for_it walk_enum Pv h0 hl (fun i x σ H H' hi hp hy => by
      obtain ⟨N, y, z, rfl, hN, rfl, e, hx⟩ := hy
      cases e
      exact hs i z σ H N hx hp hN) hd
/-- x not in a list, within a comprehension -/
theorem op_notIn_seqK {X : Cx} {K : PySem.W.Frag} (hK : X.K = K) : OpR X (compareOp .NotIn) (rIn K true) := by
  subst hK
  exact op_notIn_seq
/-- the name is one of the comprehension's own -/
theorem sw_false {elt : Expr} {gs : List Comprehension} {scope : Scope} {pos py : Pos} {y : Str} {l : Nat} {env : Env}
    (ha : (scope.names.any fun (n, k) => n == y && (k == .local || k == .cell)) = true) : swapsWith (.ListComp elt gs scope pos) (some (.Name y py)) l env = pure false := by
  unfold swapsWith
  simp only [ha]
  simp
section
variable {X : Cx} {CX : CXT} {k : Nat} {f C : Addr} {fd : FuncData} {ps ks : List Str} {sp : Sp} {E : XK} {m : Str} {o : Expr} {apos pos : Pos} {kws : List Keyword} {tk : TA} {ta : TE}
/-- the keywords' names the other way round -/
theorem kbn1R {K : PySem.W.Frag} {x qual : Str} {params : Arguments} {body : List Stmt} {scope : Scope} {f : Addr} {fd : FuncData} {ps : List Str} (F : FunD K x qual params body scope [] [] f fd) (ks : List Str)
    (h : ∀ (kV doc pm : Value) (an : Option Addr) (cdv ct : Value) (u : Value) (ws : List Value), ws.length = ks.length → bindArgs (PySem.W.fnOf x qual params body scope .none kV doc pm an cdv ct) ⟨[u], ks.zip ws⟩ = pure (ps.zip (u :: ws.reverse))) :
    KBn K fd ps 1 ks (fun us ws => us ++ ws.reverse) (fun vs zs => vs ++ zs.reverse) := by
  obtain ⟨oc, od, dV, kV, doc, pm, an, cdv, ct, sl, e, lk, hcd, hD, hK⟩ := F.ex
  rcases hD with ⟨_, e2⟩ | ⟨z, _⟩
  · subst e2 e
    refine ⟨fun s us ws Z l1 l2 => ?_, fun r r' => r.append (Rv.vals_rev r')⟩
    obtain ⟨u, rfl⟩ : ∃ u, us = [u] := by
      match us, l1 with
      | [u], _ => exact ⟨u, rfl⟩
    exact .of_eq (h kV doc pm an cdv ct u ws l2)
  · exact absurd rfl z
/-- o.m(k = v, ..) -/
theorem pe_methKw {pl : Sem Bool} (he : PE X o ta) (c : Cls X.K C) (hm : Meth X.K C m f) (F : FnOk X.prog X.w X.K X.mg X.base CX k f fd ps sp) (hr : Room k X.A) (hb : KBn X.K fd ps 1 ks (fun us ws => us ++ ws) (fun vs zs => vs ++ zs)) (hx : Passes CX X E) (hkw : PK X kws tk)
    (hall : (backToKw pos (keywordEach kws X.env)).all (·.1.isSome) = true := by rfl) (hks : (backToKw pos (keywordEach kws X.env)).filterMap (·.1) = ks := by rfl)
    (hpl : ((backTo pos (starEach [] X.env)).any (·.1) || (backToKw pos (keywordEach kws X.env)).any (·.1.isNone)) = false := by rfl)
    (ht : eval (.Call (.Attribute o m apos) [] kws pos) X.env = (do
      let ov ← eval o X.env
      standAt apos.atName
      let (f, first) ← holding [ov] (getMethod ov m pl)
      callWith pos f first (backTo pos (starEach [] X.env)) (backToKw pos (keywordEach kws X.env))) := by rfl) :
    PE X (.Call (.Attribute o m apos) [] kws pos) (tMethKw C m ks.length sp E ta tk) := by
  refine ⟨fun pins s σ H Q I h => ?_⟩
  refine PySem.W.methodCall_KW (pl := pl) (thn (he.run pins s σ H _ I h) fun u s1 ⟨x, H1, I1, rx, a, dx, fs, ex, ea, l, q⟩ => ?_) ht
  subst ex
  obtain rfl : u = Value.ref a := rx
  refine getmeth_ok I1 ea c hm l ?_
  refine PySem.W.callWith_KW0 (first := [.ref a]) (h₀ := X.base) I1.ok.mod.kin hm.kp hall ?_ hpl
  refine thn (hkw.run pos pins s1 σ H1 _ I1 q) ?_
  rintro ws s2 ⟨zs, H2, I2, rz, l2, q2⟩
  refine ⟨I2.kIn, ?_⟩
  rw [hks]
  exact run_fnN (us := [.ref a]) (vs := [.ref a]) F hr hb hx I2 (.cons rfl .nil) rz rfl l2 q2
end
end Sy

set_option Elab.async false
set_option linter.all false
set_option maxRecDepth 100000
set_option maxHeartbeats 4000000
namespace K10
open PySem PySem.Spec PyProof.Rows L2 Rd Dt Dq Pk Ln En Sx Sy
local macro_rules | `(tactic| walk_at "rd") => `(tactic| try simp only [↓Sy.tTupP_, ↓Sy.rTupP_, ↓Sy.rCatP_, ↓Sy.rSlP_, ↓Sy.rDictT_, ↓Sy.tDGet_, ↓Sy.tDGet1_, ↓Sy.tDIn_, ↓Sy.tDNotIn_, ↓Sy.tMeth_, ↓Sy.tMethKw_, ↓Sy.rSortedS_, ↓Sx.rIsT_, ↓En.tFor_enumT, ↓Sy.tFor_enumL, ↓Rv.tMakeKw_, ↓Prp.tProp_, ↓Lo.tBits_, ↓Lo.tJs_n, ↓Lo.tJs_c, ↓Lo.tFmt_, ↓Lo.gFld_, ↓Lo.tMake_, ↓Lo.rOwn_, ↓Rg.tFor_range3, ↓Rg.tLc_range3, ↓Rg.tLstC_, ↓Rg.tLc_rngV, ↓Le.rNeLE_, ↓Le.rEqLE_, ↓Ls.tLc_str, ↓Ls.sDPut_, ↓Rl.rReprL_, ↓Rl.tCallKS_, ↓Ob.tFld_, ↓Ob.sFld_, ↓tVar_, ↓tC_, ↓tM1, ↓tDNewK_, ↓tOp_, ↓tUn_, ↓rI_, ↓rI0_, ↓rU_, ↓eq_ii, ↓ne_ii, ↓eq_ss, ↓ne_ss, ↓eq_bb, ↓ne_bb, ↓tAndV_, ↓tOrV_, ↓tNotV_, ↓tIf_, ↓tTest_, ↓tB_, ↓tAnd_, ↓tOr_, ↓tNot_, ↓tChain_, ↓tNil_, ↓tCons_, ↓tTup_, ↓tLst_, ↓tCB_, ↓tCall_, ↓tSeq_, ↓tNext_, ↓tRet_, ↓tRetN_, ↓tDrop_, ↓tBreak_, ↓tNever_, ↓tIfS_, ↓tAsg_, ↓gName_, ↓gTup_, ↓gCons_, ↓gNil_, ↓gSub_, ↓tPar_, ↓tPar3_, ↓tSl_, ↓tNoPart_, ↓tPart_, ↓tBM_, ↓tFor_range1, ↓tFor_range2, ↓tFor_list, ↓tFor_tup, L2.start, List.headD_cons, List.headD_nil, List.tail_cons, List.map_cons, List.map_nil, List.length_cons, List.length_nil, List.replicate, List.append_nil, List.nil_append, List.cons_append, List.getElem?_cons_zero, List.getElem?_cons_succ, List.set_cons_zero, List.set_cons_succ, Option.some.injEq, V.int.injEq, V.bl.injEq, V.str.injEq, V.ref.injEq, exists_eq_left, exists_eq_left', exists_eq_right, exists_eq, exists_and_left, and_true, true_and, decide_eq_true_eq, Nat.reduceAdd, Nat.reduceSub, Nat.add_zero, Nat.zero_add, List.cons.injEq, Bool.not_eq_true', decide_eq_false_iff_not, eq_self, reduceCtorEq, Bool.false_eq_true, if_true, if_false, ite_true, ite_false, and_self, ↓tLc_range1, ↓tLc_range2, ↓tLc_list, ↓tLc_tup, ↓tYes_, wipe0, wipe1, ↓tCallS_, ↓rIxL_, ↓rIxT_, ↓rSlL_, ↓rCat_, ↓rSetL_, ↓rRep_, ↓rGcd_, ↓tCallK_, ↓gUnl_, ↓tRaise_, decide_true, decide_false, not_true_eq_false, not_false_eq_true, false_and, or_false, false_or, and_false, and_assoc, exists_const, forall_const, forall_eq'])
section
variable {P : Program} {w : World} {K : PySem.W.Frag} {mg : Str → Option Value} {base : Heap}
/-! ### values -/
def spWhole : Sp := fun vs H Q _ => ∃ v : Int, vs = [.int v] ∧ Q (.bl true) H
theorem sc_whole : FnScope ["value"] ["value"] (defScope (top 16)) := ⟨rfl, rfl, rfl, by decide +kernel, rfl, by decide +kernel, by decide +kernel⟩
theorem ok_whole {f : Addr} {fd : FuncData} (T : Tx mg) (F : FD K "is_whole" (top 16) f fd) : FnOk P w K mg base CX0 1 f fd ["value"] spWhole := by
  refine F.ok sc_whole (fun vs H Q E h => ?_) (fun cdv A outer s H vs Q E hr h => ?_)
  · obtain ⟨x, rfl, _⟩ := h
    rfl
  · obtain ⟨x, rfl, k⟩ := h
    refine ⟨_, (pss_one (ps_ret (pe_and (pe_callB call_isi (by rfl) T.b_isinstance (by decide +kernel) (pa_cons (pv 0) (pa_cons (pe_bltn (v := .ty "int") rfl T.b_int (by decide +kernel) rfl) pa_nil))) (pe_one (pe_not (pe_callB call_isi (by rfl) T.b_isinstance (by decide +kernel) (pa_cons (pv 0) (pa_cons (pe_bltn (v := .ty "bool") rfl T.b_bool (by decide +kernel) rfl) pa_nil)))))))), ?_⟩
    exact ⟨_, rfl, _, _, .type "int", .type "int", true, rfl, .ty _, .base (.int _), rfl, _, rfl, _, rfl, _, _, .type "int", .type "bool", false, rfl, .ty _, .base (.int _), rfl, _, rfl, k⟩
def spBetween : Sp := fun vs H Q _ => ∃ v l h : Int, vs = [.int v, .int l, .int h] ∧ Q (.bl (decide (l ≤ v) && decide (v ≤ h))) H
theorem sc_between : FnScope ["value", "low", "high"] ["value", "low", "high"] (defScope (top 17)) := ⟨rfl, rfl, rfl, by decide +kernel, rfl, by decide +kernel, by decide +kernel⟩
theorem ok_between {f : Addr} {fd : FuncData} (T : Tx mg) (F : FD K "is_between" (top 17) f fd) {f1 : Addr} {fd1 : FuncData} (C1 : Cal P w K mg base CX0 1 "is_whole" ["value"] spWhole f1 fd1) : FnOk P w K mg base CX0 2 f fd ["value", "low", "high"] spBetween := by
  obtain ⟨gis_whole, kis_whole, bis_whole, Fis_whole⟩ := C1
  refine F.ok sc_between (fun vs H Q E h => ?_) (fun cdv A outer s H vs Q E hr h => ?_)
  · obtain ⟨_, _, _, rfl, _⟩ := h
    rfl
  · obtain ⟨v, l, h, rfl, k⟩ := h
    have nd := sc_between.nd
    refine ⟨_, (pss_one (ps_ret (pe_and (pe_call Fis_whole (hr.mono (by omega)) rfl gis_whole kis_whole bis_whole .nil pass0 (pa_cons (pv 0) pa_nil)) (pe_and (pe_cmpR op_le (pv 1) (pv 0) (nomark _)) (pe_one (pe_cmpR op_le (pv 0) (pv 2) (nomark _))))))), ?_⟩
    walk_at "rd"
    refine ⟨v, rfl, ?_⟩
    walk_at "rd"
    by_cases c : l ≤ v
    · rw [decide_eq_true c] at k
      rw [if_pos c]
      exact k
    · rw [decide_eq_false c] at k
      rw [if_neg c]
      exact k
def spPlace : Sp := fun vs H Q _ => ∃ v : Int, vs = [.int v] ∧ Q (.bl (decide (0 ≤ v) && decide (v ≤ 999))) H
theorem let_has {c : Nat} (h1 : 97 ≤ c) (h2 : c ≤ 122) : c ∈ abc.cps.toList := by
  have e : abc.cps.toList = [97, 98, 99, 100, 101, 102, 103, 104, 105, 106, 107, 108, 109, 110, 111, 112, 113, 114, 115, 116, 117, 118, 119, 120, 121, 122] := by decide +kernel
  rw [e]
  simp only [List.mem_cons, List.not_mem_nil, or_false]
  omega
def spLetter : Sp := fun vs H Q _ => ∃ c : Nat, vs = [.str (L1 c)] ∧ 97 ≤ c ∧ c ≤ 122 ∧ Q (.bl true) H
def spPair (K : PySem.W.Frag) : Sp := fun vs H Q _ => ∃ (a : Addr) (x y : V), vs = [.ref a] ∧ SqT K H a [x, y] ∧ Q (.bl true) H
end
end K10

set_option Elab.async false
set_option linter.all false
set_option maxRecDepth 100000
set_option maxHeartbeats 4000000
namespace K10
open PySem PySem.Spec PyProof.Rows L2 Rd Dt Dq Pk Ln En Sx Sy
local macro_rules | `(tactic| walk_at "rd") => `(tactic| try simp only [↓Sy.tTupP_, ↓Sy.rTupP_, ↓Sy.rCatP_, ↓Sy.rSlP_, ↓Sy.rDictT_, ↓Sy.tDGet_, ↓Sy.tDGet1_, ↓Sy.tDIn_, ↓Sy.tDNotIn_, ↓Sy.tMeth_, ↓Sy.tMethKw_, ↓Sy.rSortedS_, ↓Sx.rIsT_, ↓En.tFor_enumT, ↓Sy.tFor_enumL, ↓Rv.tMakeKw_, ↓Prp.tProp_, ↓Lo.tBits_, ↓Lo.tJs_n, ↓Lo.tJs_c, ↓Lo.tFmt_, ↓Lo.gFld_, ↓Lo.tMake_, ↓Lo.rOwn_, ↓Rg.tFor_range3, ↓Rg.tLc_range3, ↓Rg.tLstC_, ↓Rg.tLc_rngV, ↓Le.rNeLE_, ↓Le.rEqLE_, ↓Ls.tLc_str, ↓Ls.sDPut_, ↓Rl.rReprL_, ↓Rl.tCallKS_, ↓Ob.tFld_, ↓Ob.sFld_, ↓tVar_, ↓tC_, ↓tM1, ↓tDNewK_, ↓tOp_, ↓tUn_, ↓rI_, ↓rI0_, ↓rU_, ↓eq_ii, ↓ne_ii, ↓eq_ss, ↓ne_ss, ↓eq_bb, ↓ne_bb, ↓tAndV_, ↓tOrV_, ↓tNotV_, ↓tIf_, ↓tTest_, ↓tB_, ↓tAnd_, ↓tOr_, ↓tNot_, ↓tChain_, ↓tNil_, ↓tCons_, ↓tTup_, ↓tLst_, ↓tCB_, ↓tCall_, ↓tSeq_, ↓tNext_, ↓tRet_, ↓tRetN_, ↓tDrop_, ↓tBreak_, ↓tNever_, ↓tIfS_, ↓tAsg_, ↓gName_, ↓gTup_, ↓gCons_, ↓gNil_, ↓gSub_, ↓tPar_, ↓tPar3_, ↓tSl_, ↓tNoPart_, ↓tPart_, ↓tBM_, ↓tFor_range1, ↓tFor_range2, ↓tFor_list, ↓tFor_tup, L2.start, List.headD_cons, List.headD_nil, List.tail_cons, List.map_cons, List.map_nil, List.length_cons, List.length_nil, List.replicate, List.append_nil, List.nil_append, List.cons_append, List.getElem?_cons_zero, List.getElem?_cons_succ, List.set_cons_zero, List.set_cons_succ, Option.some.injEq, V.int.injEq, V.bl.injEq, V.str.injEq, V.ref.injEq, exists_eq_left, exists_eq_left', exists_eq_right, exists_eq, exists_and_left, and_true, true_and, decide_eq_true_eq, Nat.reduceAdd, Nat.reduceSub, Nat.add_zero, Nat.zero_add, List.cons.injEq, Bool.not_eq_true', decide_eq_false_iff_not, eq_self, reduceCtorEq, Bool.false_eq_true, if_true, if_false, ite_true, ite_false, and_self, ↓tLc_range1, ↓tLc_range2, ↓tLc_list, ↓tLc_tup, ↓tYes_, wipe0, wipe1, ↓tCallS_, ↓rIxL_, ↓rIxT_, ↓rSlL_, ↓rCat_, ↓rSetL_, ↓rRep_, ↓rGcd_, ↓tCallK_, ↓gUnl_, ↓tRaise_, decide_true, decide_false, not_true_eq_false, not_false_eq_true, false_and, or_false, false_or, and_false, and_assoc, exists_const, forall_const, forall_eq'])
section
variable {P : Program} {w : World} {K : PySem.W.Frag} {mg : Str → Option Value} {base : Heap}
/-! ### names and cells looked at -/
theorem asc_next {ns : List (Nat × Nat)} (h : Asc ns) {i : Nat} {a b : Nat × Nat} (e1 : ns[i]? = some a) (e2 : ns[i + 1]? = some b) : a.1 < b.1 := by
  obtain ⟨h1, rfl⟩ := List.getElem?_eq_some_iff.mp e1
  obtain ⟨h2, rfl⟩ := List.getElem?_eq_some_iff.mp e2
  exact List.pairwise_iff_getElem.mp h i (i + 1) h1 h2 (Nat.lt_succ_self i)
theorem lt_L1 {c d : Nat} (h : c < d) : (L1 c).cps.toList < (L1 d).cps.toList := by
  show [c] < [d]
  exact List.cons_lt_cons_iff.mpr (.inl h)
theorem map_at {α β : Type} {f : α → β} {l : List α} {i : Nat} {y : β} (h : (l.map f)[i]? = some y) : ∃ x, l[i]? = some x ∧ y = f x := by
  rw [List.getElem?_map] at h
  obtain ⟨x, h1, h2⟩ := Option.map_eq_some_iff.mp h
  exact ⟨x, h1, h2.symm⟩
def spNames (K : PySem.W.Frag) : Sp := fun vs H Q _ => ∃ (a : Addr) (ns : List (Nat × Nat)), vs = [.ref a] ∧ PrsAt K H a (ns.map nk) ∧ NmOk ns ∧ Q (.bl true) H
def nmP (H0 : Hp) (a : Addr) (ns : List (Nat × Nat)) (i : Nat) : L2.St → Hp → Prop := fun σ H => H = H0 ∧ ∃ (x : Option V) (l : Str), (∀ n, ns[i]? = some n → l.cps.toList < (L1 n.1).cps.toList) ∧ σ = [some (.ref a), some (.str l), x]
def spCells (K : PySem.W.Frag) : Sp := fun vs H Q _ => ∃ (a : Addr) (cs : List (Nat × Nat)), vs = [.ref a] ∧ PrsAt K H a (cs.map ck) ∧ ClOk cs ∧ ∀ H', Same H H' → Q .non H'
def clP (H0 : Hp) (a : Addr) (cs : List (Nat × Nat)) (i : Nat) : L2.St → Hp → Prop := fun σ H => Same H0 H ∧ ∃ (l : Nat) (x y : Option V), (∀ c, cs[i]? = some c → l < c.1) ∧ σ = [some (.ref a), some (.int l), x, y]
end
end K10

set_option Elab.async false
set_option linter.all false
set_option maxRecDepth 100000
set_option maxHeartbeats 4000000
namespace K10
open PySem PySem.Spec PyProof.Rows L2 Rd Dt Dq Pk Ln En Sx Sy
local macro_rules | `(tactic| walk_at "rd") => `(tactic| try simp only [↓Sy.tTupP_, ↓Sy.rTupP_, ↓Sy.rCatP_, ↓Sy.rSlP_, ↓Sy.rDictT_, ↓Sy.tDGet_, ↓Sy.tDGet1_, ↓Sy.tDIn_, ↓Sy.tDNotIn_, ↓Sy.tMeth_, ↓Sy.tMethKw_, ↓Sy.rSortedS_, ↓Sx.rIsT_, ↓En.tFor_enumT, ↓Sy.tFor_enumL, ↓Rv.tMakeKw_, ↓Prp.tProp_, ↓Lo.tBits_, ↓Lo.tJs_n, ↓Lo.tJs_c, ↓Lo.tFmt_, ↓Lo.gFld_, ↓Lo.tMake_, ↓Lo.rOwn_, ↓Rg.tFor_range3, ↓Rg.tLc_range3, ↓Rg.tLstC_, ↓Rg.tLc_rngV, ↓Le.rNeLE_, ↓Le.rEqLE_, ↓Ls.tLc_str, ↓Ls.sDPut_, ↓Rl.rReprL_, ↓Rl.tCallKS_, ↓Ob.tFld_, ↓Ob.sFld_, ↓tVar_, ↓tC_, ↓tM1, ↓tDNewK_, ↓tOp_, ↓tUn_, ↓rI_, ↓rI0_, ↓rU_, ↓eq_ii, ↓ne_ii, ↓eq_ss, ↓ne_ss, ↓eq_bb, ↓ne_bb, ↓tAndV_, ↓tOrV_, ↓tNotV_, ↓tIf_, ↓tTest_, ↓tB_, ↓tAnd_, ↓tOr_, ↓tNot_, ↓tChain_, ↓tNil_, ↓tCons_, ↓tTup_, ↓tLst_, ↓tCB_, ↓tCall_, ↓tSeq_, ↓tNext_, ↓tRet_, ↓tRetN_, ↓tDrop_, ↓tBreak_, ↓tNever_, ↓tIfS_, ↓tAsg_, ↓gName_, ↓gTup_, ↓gCons_, ↓gNil_, ↓gSub_, ↓tPar_, ↓tPar3_, ↓tSl_, ↓tNoPart_, ↓tPart_, ↓tBM_, ↓tFor_range1, ↓tFor_range2, ↓tFor_list, ↓tFor_tup, L2.start, List.headD_cons, List.headD_nil, List.tail_cons, List.map_cons, List.map_nil, List.length_cons, List.length_nil, List.replicate, List.append_nil, List.nil_append, List.cons_append, List.getElem?_cons_zero, List.getElem?_cons_succ, List.set_cons_zero, List.set_cons_succ, Option.some.injEq, V.int.injEq, V.bl.injEq, V.str.injEq, V.ref.injEq, exists_eq_left, exists_eq_left', exists_eq_right, exists_eq, exists_and_left, and_true, true_and, decide_eq_true_eq, Nat.reduceAdd, Nat.reduceSub, Nat.add_zero, Nat.zero_add, List.cons.injEq, Bool.not_eq_true', decide_eq_false_iff_not, eq_self, reduceCtorEq, Bool.false_eq_true, if_true, if_false, ite_true, ite_false, and_self, ↓tLc_range1, ↓tLc_range2, ↓tLc_list, ↓tLc_tup, ↓tYes_, wipe0, wipe1, ↓tCallS_, ↓rIxL_, ↓rIxT_, ↓rSlL_, ↓rCat_, ↓rSetL_, ↓rRep_, ↓rGcd_, ↓tCallK_, ↓gUnl_, ↓tRaise_, decide_true, decide_false, not_true_eq_false, not_false_eq_true, false_and, or_false, false_or, and_false, and_assoc, exists_const, forall_const, forall_eq'])
section
variable {P : Program} {w : World} {K : PySem.W.Frag} {mg : Str → Option Value} {base : Heap}
abbrev FM (K : PySem.W.Frag) (x q : Str) (st : Stmt) (f : Addr) (fd : FuncData) : Prop := FunD K x q (defArgs st) (defBody st) (defScope st) [] [] f fd
/-! ### stores -/
def sf (an ac dp da : Addr) (lt : Str) : List (Str × V) := [("names", .ref an), ("cells", .ref ac), ("places", .ref dp), ("arrows", .ref da), ("letters", .str lt)]
theorem sf_n (an ac dp da : Addr) (lt : Str) : (sf an ac dp da lt).lookup ("names" : Str) = some (.ref an) := rfl
theorem sf_c (an ac dp da : Addr) (lt : Str) : (sf an ac dp da lt).lookup ("cells" : Str) = some (.ref ac) := rfl
theorem sf_p (an ac dp da : Addr) (lt : Str) : (sf an ac dp da lt).lookup ("places" : Str) = some (.ref dp) := rfl
theorem sf_a (an ac dp da : Addr) (lt : Str) : (sf an ac dp da lt).lookup ("arrows" : Str) = some (.ref da) := rfl
theorem sf_l (an ac dp da : Addr) (lt : Str) : (sf an ac dp da lt).lookup ("letters" : Str) = some (.str lt) := rfl
/-- an instance of Store with these names and cells -/
def StA (K : PySem.W.Frag) (C : Addr) (H : Hp) (r : Addr) (ns cs : List (Nat × Nat)) : Prop := ∃ (dx an ac dp da : Addr), H r = some (.ins C dx (sf an ac dp da (lettT ns))) ∧ PrsAt K H an (ns.map nk) ∧ PrsAt K H ac (cs.map ck) ∧
  H dp = some (.dK (ns.map nk)) ∧ H da = some (.dK (cs.map ck)) ∧ NmOk ns ∧ ClOk cs
theorem StA.up {C : Addr} {H H' : Hp} (s : Same H H') {r : Addr} {ns cs : List (Nat × Nat)} (h : StA K C H r ns cs) : StA K C H' r ns cs := by
  obtain ⟨dx, an, ac, dp, da, h1, h2, h3, h4, h5, h6, h7⟩ := h
  exact ⟨dx, an, ac, dp, da, s _ _ h1, h2.up s, h3.up s, s _ _ h4, s _ _ h5, h6, h7⟩
structure StB (K : PySem.W.Frag) (C : Addr) : Prop where
  cl : Cls K C
  nN : NoAttr K C "names"
  nC : NoAttr K C "cells"
  nP : NoAttr K C "places"
  nA : NoAttr K C "arrows"
  nL : NoAttr K C "letters"
structure StM (K : PySem.W.Frag) (mg : Str → Option Value) (C f : Addr) : Prop where
  own : Lo.OwnC K C
  mkr : Mk K C f
  g : mg "Store" = some (.ref C)
def spInit (K : PySem.W.Frag) (C : Addr) : Sp := fun vs H Q _ => ∃ (r dx an ac : Addr) (ns cs : List (Nat × Nat)), vs = [.ref r, .ref an, .ref ac] ∧ H r = some (.ins C dx []) ∧ PrsAt K H an (ns.map nk) ∧ PrsAt K H ac (cs.map ck) ∧ NmOk ns ∧ ClOk cs ∧
  ∀ H', But r H H' → StA K C H' r ns cs → Q .non H'
theorem ins_no {C dx : Addr} {fs : List (Str × V)} (xs : List V) : HO.ins C dx fs ≠ .tup xs ∧ ∀ ob, HO.ins C dx fs ≠ .frz ob (.tup xs) := ⟨fun z => (by cases z), fun _ z => (by cases z)⟩
def inP (H : Hp) (ns : List (Nat × Nat)) (D : Addr) (j : Nat) (H' : Hp) : Prop := Same H H' ∧ H' D = some (.lst (((ns.take j).map fun n => L1 n.1).map V.str))
end
end K10

set_option Elab.async false
set_option linter.all false
set_option maxRecDepth 100000
set_option maxHeartbeats 4000000
namespace K10
open PySem PySem.Spec PyProof.Rows L2 Rd Dt Dq Pk Ln En Sx Sy
local macro_rules | `(tactic| walk_at "rd") => `(tactic| try simp only [↓Sy.tTupP_, ↓Sy.rTupP_, ↓Sy.rCatP_, ↓Sy.rSlP_, ↓Sy.rDictT_, ↓Sy.tDGet_, ↓Sy.tDGet1_, ↓Sy.tDIn_, ↓Sy.tDNotIn_, ↓Sy.tMeth_, ↓Sy.tMethKw_, ↓Sy.rSortedS_, ↓Sx.rIsT_, ↓En.tFor_enumT, ↓Sy.tFor_enumL, ↓Rv.tMakeKw_, ↓Prp.tProp_, ↓Lo.tBits_, ↓Lo.tJs_n, ↓Lo.tJs_c, ↓Lo.tFmt_, ↓Lo.gFld_, ↓Lo.tMake_, ↓Lo.rOwn_, ↓Rg.tFor_range3, ↓Rg.tLc_range3, ↓Rg.tLstC_, ↓Rg.tLc_rngV, ↓Le.rNeLE_, ↓Le.rEqLE_, ↓Ls.tLc_str, ↓Ls.sDPut_, ↓Rl.rReprL_, ↓Rl.tCallKS_, ↓Ob.tFld_, ↓Ob.sFld_, ↓tVar_, ↓tC_, ↓tM1, ↓tDNewK_, ↓tOp_, ↓tUn_, ↓rI_, ↓rI0_, ↓rU_, ↓eq_ii, ↓ne_ii, ↓eq_ss, ↓ne_ss, ↓eq_bb, ↓ne_bb, ↓tAndV_, ↓tOrV_, ↓tNotV_, ↓tIf_, ↓tTest_, ↓tB_, ↓tAnd_, ↓tOr_, ↓tNot_, ↓tChain_, ↓tNil_, ↓tCons_, ↓tTup_, ↓tLst_, ↓tCB_, ↓tCall_, ↓tSeq_, ↓tNext_, ↓tRet_, ↓tRetN_, ↓tDrop_, ↓tBreak_, ↓tNever_, ↓tIfS_, ↓tAsg_, ↓gName_, ↓gTup_, ↓gCons_, ↓gNil_, ↓gSub_, ↓tPar_, ↓tPar3_, ↓tSl_, ↓tNoPart_, ↓tPart_, ↓tBM_, ↓tFor_range1, ↓tFor_range2, ↓tFor_list, ↓tFor_tup, L2.start, List.headD_cons, List.headD_nil, List.tail_cons, List.map_cons, List.map_nil, List.length_cons, List.length_nil, List.replicate, List.append_nil, List.nil_append, List.cons_append, List.getElem?_cons_zero, List.getElem?_cons_succ, List.set_cons_zero, List.set_cons_succ, Option.some.injEq, V.int.injEq, V.bl.injEq, V.str.injEq, V.ref.injEq, exists_eq_left, exists_eq_left', exists_eq_right, exists_eq, exists_and_left, and_true, true_and, decide_eq_true_eq, Nat.reduceAdd, Nat.reduceSub, Nat.add_zero, Nat.zero_add, List.cons.injEq, Bool.not_eq_true', decide_eq_false_iff_not, eq_self, reduceCtorEq, Bool.false_eq_true, if_true, if_false, ite_true, ite_false, and_self, ↓tLc_range1, ↓tLc_range2, ↓tLc_list, ↓tLc_tup, ↓tYes_, wipe0, wipe1, ↓tCallS_, ↓rIxL_, ↓rIxT_, ↓rSlL_, ↓rCat_, ↓rSetL_, ↓rRep_, ↓rGcd_, ↓tCallK_, ↓gUnl_, ↓tRaise_, decide_true, decide_false, not_true_eq_false, not_false_eq_true, false_and, or_false, false_or, and_false, and_assoc, exists_const, forall_const, forall_eq'])
section
variable {P : Program} {w : World} {K : PySem.W.Frag} {mg : Str → Option Value} {base : Heap}
/-! ### what a store tells -/
theorem StA.fa {C : Addr} (W : StB K C) {H : Hp} {r dx an ac dp da : Addr} {lt : Str} (h : H r = some (.ins C dx (sf an ac dp da lt))) :
    Ob.FA K H r "names" (.ref an) ∧ Ob.FA K H r "cells" (.ref ac) ∧ Ob.FA K H r "places" (.ref dp) ∧ Ob.FA K H r "arrows" (.ref da) ∧ Ob.FA K H r "letters" (.str lt) :=
  ⟨⟨C, dx, _, h, W.cl, W.nN, sf_n _ _ _ _ _⟩, ⟨C, dx, _, h, W.cl, W.nC, sf_c _ _ _ _ _⟩, ⟨C, dx, _, h, W.cl, W.nP, sf_p _ _ _ _ _⟩, ⟨C, dx, _, h, W.cl, W.nA, sf_a _ _ _ _ _⟩, ⟨C, dx, _, h, W.cl, W.nL, sf_l _ _ _ _ _⟩⟩
theorem Asc.look {ns : List (Nat × Nat)} (h : Asc ns) {n : Nat × Nat} (hn : n ∈ ns) : look ns n.1 = some n.2 := by
  unfold Sx.look
  induction ns with
  | nil => cases hn
  | cons x ns ih =>
    unfold Asc at h
    rw [List.pairwise_cons] at h
    rw [List.find?_cons]
    rcases List.mem_cons.mp hn with rfl | hn
    · rw [decide_eq_true rfl]; rfl
    · have := h.1 n hn
      rw [decide_eq_false (by omega)]
      exact ih h.2 hn
/-- at -/
def spAt (K : PySem.W.Frag) (C : Addr) : Sp := fun vs H Q _ => ∃ (r : Addr) (ns cs : List (Nat × Nat)) (n : Nat × Nat), vs = [.ref r, .str (L1 n.1)] ∧ StA K C H r ns cs ∧ n ∈ ns ∧ Q (.int n.2) H
/-- arrow -/
def optV (o : Option Nat) : V := match o with
  | some n => .int n
  | none => .non
def spArrow (K : PySem.W.Frag) (C : Addr) : Sp := fun vs H Q _ => ∃ (r : Addr) (ns cs : List (Nat × Nat)) (p : Nat), vs = [.ref r, .int p] ∧ StA K C H r ns cs ∧ p ≤ 999 ∧ Q (optV (look cs p)) H
theorem get_c {H : Hp} {da : Addr} {cs : List (Nat × Nat)} (h : H da = some (.dK (cs.map ck))) (p : Nat) : DGet H da (.int p) ((look cs p).map fun v : Nat => V.int v) := by
  have := DGet.k (k := Sum.inl (p : Int)) h
  rw [val_c, if_pos (by omega), Int.toNat_natCast] at this
  exact this
theorem optV_get (o : Option Nat) : (o.map fun v : Nat => V.int v).getD .non = optV o := by cases o <;> rfl
/-- is_gone -/
def goneB (ns cs : List (Nat × Nat)) (p : Nat) : Bool := !decide (p = 0) && ((look cs p).isNone && (ns.any (fun n => decide (n.2 = p)) || cs.any (fun c => decide (c.2 = p))))
def spGone (K : PySem.W.Frag) (C : Addr) : Sp := fun vs H Q _ => ∃ (r : Addr) (ns cs : List (Nat × Nat)) (p : Nat), vs = [.ref r, .int p] ∧ StA K C H r ns cs ∧ p ≤ 999 ∧ ∀ H', Same H H' → Q (.bl (goneB ns cs p)) H'
def goP (H : Hp) (ns : List (Nat × Nat)) (p : Nat) (g : Nat × Nat → Nat) (D : Addr) (j : Nat) (H' : Hp) : Prop := Same H H' ∧ H' D = some (.lst (((ns.take j).filter fun n => decide (n.2 = p)).map fun n => V.int (g n)))
theorem any_fil {α : Type} (p : α → Bool) (l : List α) : decide (¬ l.filter p = []) = l.any p := by
  rw [Bool.eq_iff_iff, decide_eq_true_eq, List.any_eq_true]
  constructor
  · intro h
    obtain ⟨x, hx⟩ := List.exists_mem_of_ne_nil _ h
    rw [List.mem_filter] at hx
    exact ⟨x, hx⟩
  · rintro ⟨x, hx, h⟩ z
    have : x ∈ l.filter p := List.mem_filter.mpr ⟨hx, h⟩
    rw [z] at this
    cases this
theorem goP_step {H : Hp} {ns : List (Nat × Nat)} {p : Nat} {g : Nat × Nat → Nat} {D : Addr} {j : Nat} {H' : Hp} (hl : ns.length ≤ 500) (h : goP H ns p g D j H') (hD : H D = none) {n : Nat × Nat} (hn : ns[j]? = some n) (z : Nat) (ez : g n = z) :
    if (n.2 : Int) = p then ∃ acc, H' D = some (.lst acc) ∧ acc.length < sizeLine ∧ goP H ns p g D (j + 1) (upd H' D (.lst (acc ++ [V.int z]))) else goP H ns p g D (j + 1) H' := by
  obtain ⟨hs, hL⟩ := h
  have zl : (1000000 : Nat) ≤ sizeLine := line_big
  have e1 : (ns.take (j + 1)).filter (fun n => decide (n.2 = p)) = (ns.take j).filter (fun n => decide (n.2 = p)) ++ if n.2 = p then [n] else [] := by
    rw [List.take_succ, hn, List.filter_append]
    congr 1
    by_cases c : n.2 = p
    · rw [if_pos c]; simp [c]
    · rw [if_neg c]; simp [c]
  split
  · rename_i c
    refine ⟨_, hL, ?_, fun c o e => ?_, ?_⟩
    · rw [List.length_map]
      have h1 := List.length_filter_le (fun n : Nat × Nat => decide (n.2 = p)) (ns.take j)
      have h2 : (List.take j ns).length ≤ ns.length := List.length_take_le' _ _
      omega
    · rw [upd_ne (ne_of_none e hD)]; exact hs c o e
    · rw [upd_same, e1, if_pos (by omega), List.map_append, ← ez]; rfl
  · rename_i c
    refine ⟨hs, ?_⟩
    rw [e1, if_neg (by omega), List.append_nil]
    exact hL
end
end K10

set_option Elab.async false
set_option linter.all false
set_option maxRecDepth 100000
set_option maxHeartbeats 4000000
namespace K10
open PySem PySem.Spec PyProof.Rows L2 Rd Dt Dq Pk Ln En Sx Sy
local macro_rules | `(tactic| walk_at "rd") => `(tactic| try simp only [↓Sy.tTupP_, ↓Sy.rTupP_, ↓Sy.rCatP_, ↓Sy.rSlP_, ↓Sy.rDictT_, ↓Sy.tDGet_, ↓Sy.tDGet1_, ↓Sy.tDIn_, ↓Sy.tDNotIn_, ↓Sy.tMeth_, ↓Sy.tMethKw_, ↓Sy.rSortedS_, ↓Sx.rIsT_, ↓En.tFor_enumT, ↓Sy.tFor_enumL, ↓Rv.tMakeKw_, ↓Prp.tProp_, ↓Lo.tBits_, ↓Lo.tJs_n, ↓Lo.tJs_c, ↓Lo.tFmt_, ↓Lo.gFld_, ↓Lo.tMake_, ↓Lo.rOwn_, ↓Rg.tFor_range3, ↓Rg.tLc_range3, ↓Rg.tLstC_, ↓Rg.tLc_rngV, ↓Le.rNeLE_, ↓Le.rEqLE_, ↓Ls.tLc_str, ↓Ls.sDPut_, ↓Rl.rReprL_, ↓Rl.tCallKS_, ↓Ob.tFld_, ↓Ob.sFld_, ↓tVar_, ↓tC_, ↓tM1, ↓tDNewK_, ↓tOp_, ↓tUn_, ↓rI_, ↓rI0_, ↓rU_, ↓eq_ii, ↓ne_ii, ↓eq_ss, ↓ne_ss, ↓eq_bb, ↓ne_bb, ↓tAndV_, ↓tOrV_, ↓tNotV_, ↓tIf_, ↓tTest_, ↓tB_, ↓tAnd_, ↓tOr_, ↓tNot_, ↓tChain_, ↓tNil_, ↓tCons_, ↓tTup_, ↓tLst_, ↓tCB_, ↓tCall_, ↓tSeq_, ↓tNext_, ↓tRet_, ↓tRetN_, ↓tDrop_, ↓tBreak_, ↓tNever_, ↓tIfS_, ↓tAsg_, ↓gName_, ↓gTup_, ↓gCons_, ↓gNil_, ↓gSub_, ↓tPar_, ↓tPar3_, ↓tSl_, ↓tNoPart_, ↓tPart_, ↓tBM_, ↓tFor_range1, ↓tFor_range2, ↓tFor_list, ↓tFor_tup, L2.start, List.headD_cons, List.headD_nil, List.tail_cons, List.map_cons, List.map_nil, List.length_cons, List.length_nil, List.replicate, List.append_nil, List.nil_append, List.cons_append, List.getElem?_cons_zero, List.getElem?_cons_succ, List.set_cons_zero, List.set_cons_succ, Option.some.injEq, V.int.injEq, V.bl.injEq, V.str.injEq, V.ref.injEq, exists_eq_left, exists_eq_left', exists_eq_right, exists_eq, exists_and_left, and_true, true_and, decide_eq_true_eq, Nat.reduceAdd, Nat.reduceSub, Nat.add_zero, Nat.zero_add, List.cons.injEq, Bool.not_eq_true', decide_eq_false_iff_not, eq_self, reduceCtorEq, Bool.false_eq_true, if_true, if_false, ite_true, ite_false, and_self, ↓tLc_range1, ↓tLc_range2, ↓tLc_list, ↓tLc_tup, ↓tYes_, wipe0, wipe1, ↓tCallS_, ↓rIxL_, ↓rIxT_, ↓rSlL_, ↓rCat_, ↓rSetL_, ↓rRep_, ↓rGcd_, ↓tCallK_, ↓gUnl_, ↓tRaise_, decide_true, decide_false, not_true_eq_false, not_false_eq_true, false_and, or_false, false_or, and_false, and_assoc, exists_const, forall_const, forall_eq'])
section
variable {P : Program} {w : World} {K : PySem.W.Frag} {mg : Str → Option Value} {base : Heap}
/-! ### as data -/
def dN (ns : List (Nat × Nat)) : PyData := .tuple ((ns.map nk).map pD)
def dC (cs : List (Nat × Nat)) : PyData := .tuple ((cs.map ck).map pD)
theorem fit_nat {n : Nat} (h : n < 1024) : Fit (.int (n : Int)) 0 12 := (Fit.int (k := 10) (by decide) (by decide) (by rw [Int.natAbs_natCast]; exact h)).mono (Nat.le_refl _) (by decide)
theorem fit_pair {a b : PyData} (h1 : Fit a 0 12) (h2 : Fit b 0 12) : Fit (.tuple [a, b]) 1 31 := Fit.tuple fun d hd => by
  rcases List.mem_cons.mp hd with rfl | hd
  · exact h1
  · rw [List.mem_singleton.mp hd]; exact h2
theorem fit_L1 {c : Nat} (h : c < 0x110000) : Fit (.str (L1 c)) 0 12 := (Fit.str (n := 1) (Nat.le_refl _) fun x hx => by
  have : x = c := by simpa [L1] using hx
  omega).mono (Nat.le_refl _) (by decide)
theorem fit_N {ns : List (Nat × Nat)} (h : NmOk ns) : Fit (dN ns) 2 17000 := (Fit.tuple (k := 1) (n := 31) fun d hd => by
  obtain ⟨kv, hk, rfl⟩ := List.mem_map.mp hd
  obtain ⟨n, hn, rfl⟩ := List.mem_map.mp hk
  obtain ⟨b1, b2, b3⟩ := h.2.2.1 n hn
  exact fit_pair (fit_L1 (by omega)) (fit_nat (by omega))).mono (Nat.le_refl _) (by
  rw [List.length_map, List.length_map]
  have := h.2.1
  omega)
theorem fit_C {cs : List (Nat × Nat)} (h : ClOk cs) : Fit (dC cs) 2 17000 := (Fit.tuple (k := 1) (n := 31) fun d hd => by
  obtain ⟨kv, hk, rfl⟩ := List.mem_map.mp hd
  obtain ⟨n, hn, rfl⟩ := List.mem_map.mp hk
  obtain ⟨b1, b2, b3⟩ := h.2.1 n hn
  exact fit_pair (fit_nat (by omega)) (fit_nat (by omega))).mono (Nat.le_refl _) (by
  rw [List.length_map, List.length_map]
  have := h.1
  omega)
theorem eqv_pairs {g : Nat × Nat → Key × V} (hg : ∀ a b, PyData.eqv (pD (g a)) (pD (g b)) = decide (a = b)) : ∀ xs ys : List (Nat × Nat), PyData.eqvAll ((xs.map g).map pD) ((ys.map g).map pD) = decide (xs = ys)
  | [], [] => by simp [PyData.eqvAll]
  | [], _ :: _ => by simp [PyData.eqvAll]
  | _ :: _, [] => by simp [PyData.eqvAll]
  | x :: xs, y :: ys => by
    show (PyData.eqv (pD (g x)) (pD (g y)) && PyData.eqvAll ((xs.map g).map pD) ((ys.map g).map pD)) = _
    rw [hg, eqv_pairs hg xs ys, Bool.eq_iff_iff]
    simp
theorem eqv_N (xs ys : List (Nat × Nat)) : PyData.eqv (dN xs) (dN ys) = decide (xs = ys) := by
  unfold dN
  rw [PyData.eqv]
  refine eqv_pairs (fun a b => ?_) xs ys
  show PyData.eqv (.tuple [.str (L1 a.1), .int a.2]) (.tuple [.str (L1 b.1), .int b.2]) = _
  rw [PyData.eqv, PyData.eqvAll, PyData.eqvAll, PyData.eqvAll, PyData.eqv, PyData.eqv, Bool.eq_iff_iff]
  obtain ⟨a1, a2⟩ := a
  obtain ⟨b1, b2⟩ := b
  simp only [Bool.and_true, Bool.and_eq_true, beq_iff_eq, decide_eq_true_eq, Prod.mk.injEq]
  constructor
  · rintro ⟨h1, h2⟩
    exact ⟨L1_inj h1, by omega⟩
  · rintro ⟨rfl, rfl⟩
    exact ⟨rfl, rfl⟩
theorem eqv_C (xs ys : List (Nat × Nat)) : PyData.eqv (dC xs) (dC ys) = decide (xs = ys) := by
  unfold dC
  rw [PyData.eqv]
  refine eqv_pairs (fun a b => ?_) xs ys
  show PyData.eqv (.tuple [.int a.1, .int a.2]) (.tuple [.int b.1, .int b.2]) = _
  rw [PyData.eqv, PyData.eqvAll, PyData.eqvAll, PyData.eqvAll, PyData.eqv, PyData.eqv, Bool.eq_iff_iff]
  obtain ⟨a1, a2⟩ := a
  obtain ⟨b1, b2⟩ := b
  simp only [Bool.and_true, Bool.and_eq_true, beq_iff_eq, decide_eq_true_eq, Prod.mk.injEq]
  constructor
  · rintro ⟨h1, h2⟩
    omega
  · rintro ⟨rfl, rfl⟩
    exact ⟨rfl, rfl⟩
theorem dp_N {H : Hp} {a : Addr} {ns : List (Nat × Nat)} (h : PrsAt K H a (ns.map nk)) : Dp K H (.ref a) (dN ns) := h.dp (intV_n ns)
theorem dp_C {H : Hp} {a : Addr} {cs : List (Nat × Nat)} (h : PrsAt K H a (cs.map ck)) : Dp K H (.ref a) (dC cs) := h.dp (intV_c cs)
/-! ### == -/
def spEq (K : PySem.W.Frag) (C : Addr) : Sp := fun vs H Q _ => ∃ (r : Addr) (y : V) (ns cs : List (Nat × Nat)), vs = [.ref r, y] ∧ StA K C H r ns cs ∧ ((∃ t, TyOf K H y t ∧ PySem.W.kitOne K t (.ref C) = some false ∧ Q (.bl false) H) ∨
  ∃ (b : Addr) (ns' cs' : List (Nat × Nat)), y = .ref b ∧ StA K C H b ns' cs' ∧ Q (.bl (decide (ns = ns') && decide (cs = cs'))) H)
/-! ### text -/
def spText (K : PySem.W.Frag) (C : Addr) : Sp := fun vs H Q _ => ∃ (r : Addr) (ns cs : List (Nat × Nat)), vs = [.ref r] ∧ StA K C H r ns cs ∧ ∀ H', Same H H' → Q (.str (storeT ns cs)) H'
def txP (H : Hp) (g : Nat × Nat → Str) (ns : List (Nat × Nat)) (D : Addr) (j : Nat) (H' : Hp) : Prop := Same H H' ∧ H' D = some (.lst (((ns.take j).map g).map V.str))
theorem txP_step {H : Hp} {g : Nat × Nat → Str} {ns : List (Nat × Nat)} {D : Addr} {j : Nat} {H' : Hp} (hl : ns.length ≤ 500) (h : txP H g ns D j H') (hD : H D = none) {n : Nat × Nat} (hn : ns[j]? = some n) (z : Str) (ez : z = g n) :
    ∃ acc, H' D = some (.lst acc) ∧ acc.length < sizeLine ∧ txP H g ns D (j + 1) (upd H' D (.lst (acc ++ [V.str z]))) := by
  obtain ⟨hs, hL⟩ := h
  have zl : (1000000 : Nat) ≤ sizeLine := line_big
  refine ⟨_, hL, ?_, fun c o e => ?_, ?_⟩
  · rw [List.length_map, List.length_map]
    have h2 : (List.take j ns).length ≤ ns.length := List.length_take_le' _ _
    omega
  · rw [upd_ne (ne_of_none e hD)]; exact hs c o e
  · rw [upd_same, List.take_succ, hn, List.map_append, List.map_append, ez]; rfl
end
end K10

set_option Elab.async false
set_option linter.all false
set_option maxRecDepth 100000
set_option maxHeartbeats 4000000
namespace K10
open PySem PySem.Spec PyProof.Rows L2 Rd Dt Dq Pk Ln En Sx Sy
local macro_rules | `(tactic| walk_at "rd") => `(tactic| try simp only [↓Sy.tTupP_, ↓Sy.rTupP_, ↓Sy.rCatP_, ↓Sy.rSlP_, ↓Sy.rDictT_, ↓Sy.tDGet_, ↓Sy.tDGet1_, ↓Sy.tDIn_, ↓Sy.tDNotIn_, ↓Sy.tMeth_, ↓Sy.tMethKw_, ↓Sy.rSortedS_, ↓Sx.rIsT_, ↓En.tFor_enumT, ↓Sy.tFor_enumL, ↓Rv.tMakeKw_, ↓Prp.tProp_, ↓Lo.tBits_, ↓Lo.tJs_n, ↓Lo.tJs_c, ↓Lo.tFmt_, ↓Lo.gFld_, ↓Lo.tMake_, ↓Lo.rOwn_, ↓Rg.tFor_range3, ↓Rg.tLc_range3, ↓Rg.tLstC_, ↓Rg.tLc_rngV, ↓Le.rNeLE_, ↓Le.rEqLE_, ↓Ls.tLc_str, ↓Ls.sDPut_, ↓Rl.rReprL_, ↓Rl.tCallKS_, ↓Ob.tFld_, ↓Ob.sFld_, ↓tVar_, ↓tC_, ↓tM1, ↓tDNewK_, ↓tOp_, ↓tUn_, ↓rI_, ↓rI0_, ↓rU_, ↓eq_ii, ↓ne_ii, ↓eq_ss, ↓ne_ss, ↓eq_bb, ↓ne_bb, ↓tAndV_, ↓tOrV_, ↓tNotV_, ↓tIf_, ↓tTest_, ↓tB_, ↓tAnd_, ↓tOr_, ↓tNot_, ↓tChain_, ↓tNil_, ↓tCons_, ↓tTup_, ↓tLst_, ↓tCB_, ↓tCall_, ↓tSeq_, ↓tNext_, ↓tRet_, ↓tRetN_, ↓tDrop_, ↓tBreak_, ↓tNever_, ↓tIfS_, ↓tAsg_, ↓gName_, ↓gTup_, ↓gCons_, ↓gNil_, ↓gSub_, ↓tPar_, ↓tPar3_, ↓tSl_, ↓tNoPart_, ↓tPart_, ↓tBM_, ↓tFor_range1, ↓tFor_range2, ↓tFor_list, ↓tFor_tup, L2.start, List.headD_cons, List.headD_nil, List.tail_cons, List.map_cons, List.map_nil, List.length_cons, List.length_nil, List.replicate, List.append_nil, List.nil_append, List.cons_append, List.getElem?_cons_zero, List.getElem?_cons_succ, List.set_cons_zero, List.set_cons_succ, Option.some.injEq, V.int.injEq, V.bl.injEq, V.str.injEq, V.ref.injEq, exists_eq_left, exists_eq_left', exists_eq_right, exists_eq, exists_and_left, and_true, true_and, decide_eq_true_eq, Nat.reduceAdd, Nat.reduceSub, Nat.add_zero, Nat.zero_add, List.cons.injEq, Bool.not_eq_true', decide_eq_false_iff_not, eq_self, reduceCtorEq, Bool.false_eq_true, if_true, if_false, ite_true, ite_false, and_self, ↓tLc_range1, ↓tLc_range2, ↓tLc_list, ↓tLc_tup, ↓tYes_, wipe0, wipe1, ↓tCallS_, ↓rIxL_, ↓rIxT_, ↓rSlL_, ↓rCat_, ↓rSetL_, ↓rRep_, ↓rGcd_, ↓tCallK_, ↓gUnl_, ↓tRaise_, decide_true, decide_false, not_true_eq_false, not_false_eq_true, false_and, or_false, false_or, and_false, and_assoc, exists_const, forall_const, forall_eq'])
section
variable {P : Program} {w : World} {K : PySem.W.Frag} {mg : Str → Option Value} {base : Heap}
/-! ### letters drawn -/
abbrev sL (c : Nat) : V := .str (L1 c)
theorem inV_L (c : Nat) (fs : List Nat) : inV (sL c) (fs.map sL) = decide (c ∈ fs) := by
  unfold inV
  rw [List.any_map, Bool.eq_iff_iff, List.any_eq_true, decide_eq_true_eq]
  constructor
  · rintro ⟨x, hx, e⟩
    have : eqV (sL x) (sL c) = true := e
    have e2 : L1 x = L1 c := by simpa [eqV] using this
    rw [← L1_inj e2]
    exact hx
  · intro hx
    exact ⟨c, hx, by show eqV (sL c) (sL c) = true; simp [eqV]⟩
theorem flat_L (fs : List Nat) : (fs.map sL).all flatV = true := by
  rw [List.all_map, List.all_eq_true]
  exact fun _ _ => rfl
def Lets (fs : List Nat) : Prop := fs.Nodup ∧ ∀ c ∈ fs, 97 ≤ c ∧ c ≤ 122
theorem rising_le : ∀ {xs : List Nat} {a : Nat}, risingS (L1 a) (xs.map L1) = true → (a :: xs).Pairwise (· ≤ ·)
  | [], a, _ => List.pairwise_singleton _ _
  | x :: xs, a, h => by
    rw [List.map_cons] at h
    unfold risingS at h
    rw [Bool.and_eq_true] at h
    have h2 := rising_le h.2
    have h1 : a ≤ x := by
      have := h.1
      rw [ltCps_eq, Bool.not_eq_true', decide_eq_false_iff_not] at this
      exact Decidable.by_contra fun z => this (lt_L1 (by omega))
    rw [List.pairwise_cons] at h2 ⊢
    refine ⟨fun y hy => ?_, by rw [List.pairwise_cons]; exact h2⟩
    rcases List.mem_cons.mp hy with rfl | hy
    · exact h1
    · have := h2.1 y hy
      omega
theorem sorted_L {ys : List Str} {fs : List Nat} (hp : ys.Perm (fs.map L1)) (hs : sortedS ys = true) (h : Lets fs) : ∃ cs : List Nat, ys = cs.map L1 ∧ cs.length = fs.length ∧ cs.Pairwise (· < ·) ∧ ∀ c ∈ cs, 97 ≤ c ∧ c ≤ 122 := by
  have e1 : ys = (ys.map fun s => s.cps.toList.headD 0).map L1 := by
    rw [List.map_map]
    refine (List.map_id' ys).symm.trans (List.map_congr_left fun s hs => ?_)
    obtain ⟨c, _, rfl⟩ := List.mem_map.mp (hp.mem_iff.mp hs)
    rfl
  have e2 : (ys.map fun s : Str => s.cps.toList.headD 0).Perm fs := by
    have := hp.map fun s : Str => s.cps.toList.headD 0
    rw [List.map_map] at this
    have e3 : (fs.map ((fun s : Str => s.cps.toList.headD 0) ∘ L1)) = fs := (List.map_congr_left fun c _ => rfl).trans (List.map_id' fs)
    rwa [e3] at this
  generalize (ys.map fun s : Str => s.cps.toList.headD 0) = cs at e1 e2
  subst e1
  refine ⟨cs, rfl, e2.length_eq, ?_, fun c hc => h.2 c (e2.mem_iff.mp hc)⟩
  have nd : cs.Nodup := e2.nodup_iff.mpr h.1
  have le : cs.Pairwise (· ≤ ·) := by
    cases cs with
    | nil => exact .nil
    | cons c cs => exact rising_le hs
  exact (le.and nd).imp fun {a b} q => by have := q.2; omega
def spLets : Sp := fun vs H Q _ => ∃ (u : Addr) (m : Nat), vs = [.ref u, .int m] ∧ WellAt H u ∧ m ≤ 4 ∧ ∀ (p : Addr) (cs : List Nat) (H' : Hp), But u H H' → WellAt H' u → H' p = some (.lst (cs.map sL)) → H p = none → cs.length = m → cs.Pairwise (· < ·) → (∀ c ∈ cs, 97 ≤ c ∧ c ≤ 122) → Q (.ref p) H'
def ltP (H0 : Hp) (u D : Addr) (m : Nat) (i : Nat) : L2.St → Hp → Prop := fun σ H => But u H0 H ∧ WellAt H u ∧ ∃ (fs : List Nat) (v1 v2 v3 v4 : Option V), fs.length = i ∧ Lets fs ∧ H D = some (.lst (fs.map sL)) ∧ σ = [some (.ref u), some (.int m), some (.ref D), v1, v2, v3, v4]
def nrP (H : Hp) (fs tk : List Nat) (D : Addr) (j : Nat) (H' : Hp) : Prop := Same H H' ∧ H' D = some (.lst (((tk.take j).filter fun c => !decide (c ∈ fs)).map sL))
theorem nrP_step {H : Hp} {fs tk : List Nat} {D : Addr} {j : Nat} {H' : Hp} (hl : tk.length ≤ 500) (h : nrP H fs tk D j H') (hD : H D = none) {c : Nat} (hc : tk[j]? = some c) :
    if (!decide (c ∈ fs)) = true then ∃ acc, H' D = some (.lst acc) ∧ acc.length < sizeLine ∧ nrP H fs tk D (j + 1) (upd H' D (.lst (acc ++ [sL c]))) else nrP H fs tk D (j + 1) H' := by
  obtain ⟨hs, hL⟩ := h
  have zl : (1000000 : Nat) ≤ sizeLine := line_big
  have e1 : (tk.take (j + 1)).filter (fun c => !decide (c ∈ fs)) = (tk.take j).filter (fun c => !decide (c ∈ fs)) ++ if (!decide (c ∈ fs)) = true then [c] else [] := by
    rw [List.take_succ, hc, List.filter_append]
    congr 1
    by_cases d : (!decide (c ∈ fs)) = true
    · rw [if_pos d]; simp only [Option.toList_some, List.filter_cons, d, if_true, List.filter_nil]
    · rw [if_neg d]; simp only [Option.toList_some, List.filter_cons, d, if_false, List.filter_nil, Bool.false_eq_true]
  split
  · rename_i d
    refine ⟨_, hL, ?_, fun b o e => ?_, ?_⟩
    · rw [List.length_map]
      have h1 := List.length_filter_le (fun c : Nat => !decide (c ∈ fs)) (tk.take j)
      have h2 : (List.take j tk).length ≤ tk.length := List.length_take_le' _ _
      omega
    · rw [upd_ne (ne_of_none e hD)]; exact hs b o e
    · rw [upd_same, e1, if_pos d, List.map_append]; rfl
  · rename_i d
    refine ⟨hs, ?_⟩
    rw [e1, if_neg d, List.append_nil]
    exact hL
theorem fil_len {fs tk : List Nat} (hf : fs.length < tk.length) (hd : tk.Nodup) : 1 ≤ (tk.filter fun c => !decide (c ∈ fs)).length := by
  refine Decidable.by_contra fun z => ?_
  have e : tk.filter (fun c => !decide (c ∈ fs)) = [] := List.eq_nil_of_length_eq_zero (by omega)
  have sub : ∀ c ∈ tk, c ∈ fs := fun c hc => Decidable.by_contra fun n => by
    have : c ∈ tk.filter (fun c => !decide (c ∈ fs)) := List.mem_filter.mpr ⟨hc, by simp [n]⟩
    rw [e] at this
    cases this
  have := List.Nodup.length_le_of_subset hd sub
  omega
end
end K10

set_option Elab.async false
set_option linter.all false
set_option maxRecDepth 100000
set_option maxHeartbeats 4000000
namespace K10
open PySem PySem.Spec PyProof.Rows L2 Rd Dt Dq Pk Ln En Sx Sy
local macro_rules | `(tactic| walk_at "rd") => `(tactic| try simp only [↓Sy.tTupP_, ↓Sy.rTupP_, ↓Sy.rCatP_, ↓Sy.rSlP_, ↓Sy.rDictT_, ↓Sy.tDGet_, ↓Sy.tDGet1_, ↓Sy.tDIn_, ↓Sy.tDNotIn_, ↓Sy.tMeth_, ↓Sy.tMethKw_, ↓Sy.rSortedS_, ↓Sx.rIsT_, ↓En.tFor_enumT, ↓Sy.tFor_enumL, ↓Rv.tMakeKw_, ↓Prp.tProp_, ↓Lo.tBits_, ↓Lo.tJs_n, ↓Lo.tJs_c, ↓Lo.tFmt_, ↓Lo.gFld_, ↓Lo.tMake_, ↓Lo.rOwn_, ↓Rg.tFor_range3, ↓Rg.tLc_range3, ↓Rg.tLstC_, ↓Rg.tLc_rngV, ↓Le.rNeLE_, ↓Le.rEqLE_, ↓Ls.tLc_str, ↓Ls.sDPut_, ↓Rl.rReprL_, ↓Rl.tCallKS_, ↓Ob.tFld_, ↓Ob.sFld_, ↓tVar_, ↓tC_, ↓tM1, ↓tDNewK_, ↓tOp_, ↓tUn_, ↓rI_, ↓rI0_, ↓rU_, ↓eq_ii, ↓ne_ii, ↓eq_ss, ↓ne_ss, ↓eq_bb, ↓ne_bb, ↓tAndV_, ↓tOrV_, ↓tNotV_, ↓tIf_, ↓tTest_, ↓tB_, ↓tAnd_, ↓tOr_, ↓tNot_, ↓tChain_, ↓tNil_, ↓tCons_, ↓tTup_, ↓tLst_, ↓tCB_, ↓tCall_, ↓tSeq_, ↓tNext_, ↓tRet_, ↓tRetN_, ↓tDrop_, ↓tBreak_, ↓tNever_, ↓tIfS_, ↓tAsg_, ↓gName_, ↓gTup_, ↓gCons_, ↓gNil_, ↓gSub_, ↓tPar_, ↓tPar3_, ↓tSl_, ↓tNoPart_, ↓tPart_, ↓tBM_, ↓tFor_range1, ↓tFor_range2, ↓tFor_list, ↓tFor_tup, L2.start, List.headD_cons, List.headD_nil, List.tail_cons, List.map_cons, List.map_nil, List.length_cons, List.length_nil, List.replicate, List.append_nil, List.nil_append, List.cons_append, List.getElem?_cons_zero, List.getElem?_cons_succ, List.set_cons_zero, List.set_cons_succ, Option.some.injEq, V.int.injEq, V.bl.injEq, V.str.injEq, V.ref.injEq, exists_eq_left, exists_eq_left', exists_eq_right, exists_eq, exists_and_left, and_true, true_and, decide_eq_true_eq, Nat.reduceAdd, Nat.reduceSub, Nat.add_zero, Nat.zero_add, List.cons.injEq, Bool.not_eq_true', decide_eq_false_iff_not, eq_self, reduceCtorEq, Bool.false_eq_true, if_true, if_false, ite_true, ite_false, and_self, ↓tLc_range1, ↓tLc_range2, ↓tLc_list, ↓tLc_tup, ↓tYes_, wipe0, wipe1, ↓tCallS_, ↓rIxL_, ↓rIxT_, ↓rSlL_, ↓rCat_, ↓rSetL_, ↓rRep_, ↓rGcd_, ↓tCallK_, ↓gUnl_, ↓tRaise_, decide_true, decide_false, not_true_eq_false, not_false_eq_true, false_and, or_false, false_or, and_false, and_assoc, exists_const, forall_const, forall_eq'])
section
variable {P : Program} {w : World} {K : PySem.W.Frag} {mg : Str → Option Value} {base : Heap}
/-! ### cells drawn -/
abbrev iL (n : Nat) : V := .int (n : Int)
def spDraw (K : PySem.W.Frag) : Sp := fun vs H Q _ => ∃ (u : Addr) (m : Nat), vs = [.ref u, .int m] ∧ WellAt H u ∧ m ≤ 30 ∧ ∀ (t pc pg : Addr) (xs : List V) (cs : List (Nat × Nat)) (gs : List Nat) (H' : Hp), But u H H' → WellAt H' u → SqT K H' t [.ref pc, .ref pg] → H' pc = some (.lst xs) → Prs K H' xs (cs.map ck) → ClOk cs → cs.length ≤ m →
  H' pg = some (.lst (gs.map iL)) → 3 ≤ gs.length → gs.length ≤ 40 → (∀ g ∈ gs, g ≤ 999) → H pc = none → H pg = none → Q (.ref t) H'
def dp1 (H0 : Hp) (u D : Addr) (m n : Nat) (i : Nat) : L2.St → Hp → Prop := fun σ H => But u H0 H ∧ WellAt H u ∧ ∃ (ps : List Nat) (l : Nat) (v1 v2 v3 v4 v5 v6 : Option V), ps.length = i ∧ l ≤ 900 + 2 * i ∧ ps.Pairwise (· < ·) ∧ (∀ p ∈ ps, 1 ≤ p ∧ p ≤ l) ∧ H D = some (.lst (ps.map iL)) ∧
  σ = [some (.ref u), some (.int m), some (.int n), some (.int l), some (.ref D), v1, v2, v3, v4, v5, v6]
def dp2 (K : PySem.W.Frag) (H0 : Hp) (u D G C : Addr) (m n l : Nat) (ps gs : List Nat) (i : Nat) : L2.St → Hp → Prop := fun σ H => But u H0 H ∧ WellAt H u ∧ H D = some (.lst (ps.map iL)) ∧ H G = some (.lst (gs.map iL)) ∧ ∃ (xs : List V) (cs : List (Nat × Nat)) (v1 v4 v5 v6 : Option V), H C = some (.lst xs) ∧ Prs K H xs (cs.map ck) ∧ cs.map (fun c => c.1) = ps.take i ∧ (∀ c ∈ cs, c.2 ∈ gs) ∧
  σ = [some (.ref u), some (.int m), some (.int n), some (.int l), some (.ref D), v1, some (.ref G), some (.ref C), v4, v5, v6]
theorem lst_no {l : List V} (xs : List V) : HO.lst l ≠ .tup xs ∧ ∀ ob, HO.lst l ≠ .frz ob (.tup xs) := ⟨fun z => (by cases z), fun _ z => (by cases z)⟩
theorem sc_dc : FnScope ["_law_jug_here", "_law_most", "_law_many", "_law_last", "_law_places", "_law_turn", "_law_goals", "_law_cells", "_law_at", "_law_place", "_law_goal"] ["_law_jug_here", "_law_most"] (defScope (top 33)) := ⟨rfl, rfl, rfl, by decide +kernel, rfl, by decide +kernel, by decide +kernel⟩
theorem ok_dc {f : Addr} {fd : FuncData} (T : Tx mg) (F : FD K "_law_drawn_cells" (top 33) f fd) {f1 f2 : Addr} {fd1 fd2 : FuncData} (C1 : Cal P w K mg base CX0 1 "_law_take" ["_law_jug_here", "_law_many"] spTake f1 fd1)
    (C2 : Cal P w K mg base CX0 2 "_law_one_of" ["_law_jug_here", "_law_some"] spPick f2 fd2) : FnOk P w K mg base CX0 3 f fd ["_law_jug_here", "_law_most"] (spDraw K) := by
  obtain ⟨g_law_take, k_law_take, b_law_take, F_law_take⟩ := C1
  obtain ⟨g_law_one_of, k_law_one_of, b_law_one_of, F_law_one_of⟩ := C2
  refine F.ok sc_dc (fun vs H Q E h => ?_) (fun cdv A outer s H vs Q E hr h => ?_)
  · obtain ⟨_, _, rfl, _⟩ := h
    rfl
  · obtain ⟨u, m, rfl, wl, hm, k⟩ := h
    have nd := sc_dc.nd
    have zl : (1000000 : Nat) ≤ sizeLine := line_big
    refine ⟨_, (pss_cons (ps_par3 rfl nd (i := 2) (j := 3) (l := 4) rfl rfl rfl (by decide) (by decide) (by decide) rfl rfl rfl (pa_cons (pe_call F_law_take (hr.mono (by omega)) rfl g_law_take k_law_take b_law_take .nil pass0 (pa_cons (pv 0) (pa_cons (pe_op op_add (pv 1) pe_int) pa_nil))) (pa_cons (pe_call F_law_one_of (hr.mono (by omega)) rfl g_law_one_of k_law_one_of b_law_one_of .nil pass0 (pa_cons (pv 0) (pa_cons (pe_lst (pa_cons pe_int (pa_cons pe_int (pa_cons pe_int (pa_cons pe_int (pa_cons pe_int pa_nil)))))) pa_nil))) (pa_cons (pe_lst pa_nil) pa_nil))) rfl)
        (pss_cons (ps_for (passes_of rfl) rfl (pi_range1 rfl T.b_range (pa_cons (pv 2) pa_nil)) (pg_name (i := 5) nd rfl (Or.inl rfl)) (pss_cons (ps_set (i := 3) nd rfl (Or.inl rfl) (pe_op op_add (pe_op op_add (pv 3) pe_int) (pe_callTy call_int1 (by rfl) T.b_int (by decide +kernel) (pa_cons (pe_cmpR op_eq (pe_call F_law_take (hr.mono (by omega)) rfl g_law_take k_law_take b_law_take .nil pass0 (pa_cons (pv 0) (pa_cons pe_int pa_nil))) pe_int (nomark _)) pa_nil))))
        (pss_one (ps_expr (pe_bm PySem.F.plainAttrs_list PySem.F.slot_list_append PySem.F.type_list_append mt_append (pv 4) (pa_cons (pv 3) pa_nil))))))
        (pss_cons (ps_par rfl nd (i := 6) (j := 7) rfl rfl (by decide) rfl rfl (pa_cons (pe_op op_cat (pe_op op_cat (pe_lst (pa_cons pe_int pa_nil)) (pv 4)) (pe_lst (pa_cons (pe_op op_add (pv 3) pe_int) (pa_cons (pe_op op_add (pv 3) pe_int) pa_nil)))) (pa_cons (pe_lst pa_nil) pa_nil)) rfl)
        (pss_cons (ps_for (passes_of rfl) rfl (pi_enum rfl T.b_enumerate (pa_cons (pv 4) pa_nil)) (pg_tup rfl (pgs_cons (pg_name (i := 8) nd rfl (Or.inl rfl) (hf := Or.inr rfl)) (pgs_cons (pg_name (i := 9) nd rfl (Or.inl rfl) (hf := Or.inr rfl)) pgs_nil))) (pss_cons (ps_set (i := 10) nd rfl (Or.inl rfl) (pe_ix (r := rIxL K) ix_list (pv 6) (pe_op op_add (pv 8) pe_int) (fun _ _ => rfl)))
        (pss_cons (ps_if (pt_cmpR op_gt (pe_call F_law_take (hr.mono (by omega)) rfl g_law_take k_law_take b_law_take .nil pass0 (pa_cons (pv 0) (pa_cons pe_int pa_nil))) pe_int (nomark _)) (pss_one (ps_set (i := 10) nd rfl (Or.inl rfl) (pe_call F_law_one_of (hr.mono (by omega)) rfl g_law_one_of k_law_one_of b_law_one_of .nil pass0 (pa_cons (pv 0) (pa_cons (pv 6) pa_nil))))) pss_nil)
        (pss_one (ps_expr (pe_bm PySem.F.plainAttrs_list PySem.F.slot_list_append PySem.F.type_list_append mt_append (pv 7) (pa_cons (pe_tup (pa_cons (pv 9) (pa_cons (pv 10) pa_nil))) pa_nil)))))))
        (pss_one (ps_ret (pe_tup (pa_cons (pv 7) (pa_cons (pv 6) pa_nil))))))))), ?_⟩
    refine sq fun U hU => ?_
    walk_at "rd"
    refine ⟨u, m + 1, rfl, wl, by omega, by omega, fun n' H1 b1 w1 n0 n1 => ⟨by omega, fun P1 hP1 => ?_⟩⟩
    obtain ⟨n, rfl⟩ : ∃ n : Nat, n' = n := ⟨n'.toNat, by omega⟩
    have nP1u : P1 ≠ u := fun z => by
      obtain ⟨_, _, _, e, _⟩ := w1
      rw [z, e] at hP1
      cases hP1
    refine ⟨u, .ref P1, _, rfl, w1.but (same_new hP1), fun z => nP1u (by injection z), .lst upd_same, by decide, by decide, fun y H2 b2 w2 hy => ⟨by omega, fun D hD => hU _ _ ?_⟩⟩
    clear hU
    have b02 : But u H H2 := fun c o q e => b2 _ _ q (same_new hP1 _ _ (b1 _ _ q e))
    obtain ⟨l0, hl0, rfl⟩ : ∃ l : Nat, l ≤ 900 ∧ y = iL l := by
      simp only [List.mem_cons, List.not_mem_nil, or_false] at hy
      rcases hy with rfl | rfl | rfl | rfl | rfl
      · exact ⟨0, by omega, rfl⟩
      · exact ⟨0, by omega, rfl⟩
      · exact ⟨0, by omega, rfl⟩
      · exact ⟨900, by omega, rfl⟩
      · exact ⟨41, by omega, rfl⟩
    have hD0 : H D = none := by
      cases eD : H D with
      | none => rfl
      | some o =>
        have : D ≠ u := fun z => by
          obtain ⟨_, _, _, e, _⟩ := w2
          rw [z, e] at hD
          cases hD
        rw [b02 _ _ this eD] at hD
        cases hD
    have nDu : D ≠ u := fun z => by
      obtain ⟨_, _, _, e, _⟩ := w2
      rw [z, e] at hD
      cases hD
    refine sq fun U hU => ?_
    walk_at "rd"
    refine ⟨by omega, by omega, for_r (n := (n : Int).toNat) (dp1 H u D m n) ⟨fun c o q e => same_new hD _ _ (b02 _ _ q e), w2.but (same_new hD), [], l0, none, none, none, none, none, none, rfl, by omega, .nil, fun _ z => (nomatch z), upd_same, rfl⟩ ?_ ?_⟩
    · rintro i σ H' hi ⟨hb, wl', ps, l, v1, v2, v3, v4, v5, v6, lp, hl, hpw, hpl, hD', rfl⟩
      walk_at "rd"
      refine ⟨u, 3, rfl, wl', by decide, by decide, fun d H1 b1 w1 d0 d1 => ?_⟩
      have hD1 := b1 _ _ nDu hD'
      have fin : ∀ z : Int, z = l + 1 ∨ z = l + 2 → rAppend (V.ref D) [V.int z] H1 (fun x H1 => dp1 H u D m n (i + 1) [some (V.ref u), some (V.int m), some (V.int n), some (V.int z), some (V.ref D), some (V.int (0 + i)), v2, v3, v4, v5, v6] H1) := fun z hz => by
        obtain ⟨zn, rfl⟩ : ∃ zn : Nat, z = zn := ⟨z.toNat, by omega⟩
        refine ⟨D, _, _, rfl, rfl, hD1, by rw [List.length_map]; omega, fun c o q e => ?_, ?_, ps ++ [zn], zn, _, _, _, _, _, _, by rw [List.length_append, lp]; rfl, by omega, ?_, fun p hp => ?_, by rw [upd_same, List.map_append]; rfl, rfl⟩
        · rw [upd_ne (ne_of_none e hD0)]
          exact b1 _ _ q (hb _ _ q e)
        · obtain ⟨q1, q2, q3, e, q4⟩ := w1
          exact ⟨q1, q2, q3, by rw [upd_ne (Ne.symm nDu)]; exact e, q4⟩
        · rw [List.pairwise_append]
          refine ⟨hpw, List.pairwise_singleton _ _, fun a ha b hb => ?_⟩
          rw [List.mem_singleton.mp hb]
          have := hpl a ha
          omega
        · rcases List.mem_append.mp hp with hp | hp
          · have := hpl p hp
            omega
          · rw [List.mem_singleton.mp hp]
            omega
      show (rEq (.int d) (.int 2) H1 _)
      walk_at "rd"
      refine ⟨.inl ⟨rfl, _, SqL.of hD1⟩, fin _ ?_⟩
      split <;> omega
    · rintro σ H' ⟨hb, wl', ps, l, v1, v2, v3, v4, v5, v6, lp, hl, hpw, hpl, hD', rfl⟩
      refine hU _ _ ?_
      clear hU
      refine sq fun U hU => ?_
      walk_at "rd"
      have ln : ps.length ≤ 30 := by omega
      refine ⟨by omega, fun p1 h1 => ⟨_, upd_same, ps.map iL, same_new h1 _ _ hD', by rw [List.length_map]; show 1 + ps.length ≤ _; omega, fun p2 h2 => ⟨by omega, fun p3 h3 => ⟨_, same_new h3 _ _ upd_same, _, upd_same, ?_, fun p4 h4 => ⟨by omega, fun p5 h5 => hU _ _ ?_⟩⟩⟩⟩⟩
      · rw [List.length_append, List.length_map]
        show 1 + ps.length + 2 ≤ _
        omega
      clear hU
      have s9 : Same H' (upd (upd (upd (upd (upd H' p1 (HO.lst [V.int 0])) p2 (HO.lst ([V.int 0] ++ List.map iL ps))) p3 (HO.lst [V.int ((l : Int) + 1), V.int ((l : Int) + 2)])) p4 (HO.lst ([V.int 0] ++ List.map iL ps ++ [V.int ((l : Int) + 1), V.int ((l : Int) + 2)]))) p5 (HO.lst [])) :=
        fun c o e => same_new h5 _ _ (same_new h4 _ _ (same_new h3 _ _ (same_new h2 _ _ (same_new h1 _ _ e))))
      have hG9 : (upd (upd (upd (upd (upd H' p1 (HO.lst [V.int 0])) p2 (HO.lst ([V.int 0] ++ List.map iL ps))) p3 (HO.lst [V.int ((l : Int) + 1), V.int ((l : Int) + 2)])) p4 (HO.lst ([V.int 0] ++ List.map iL ps ++ [V.int ((l : Int) + 1), V.int ((l : Int) + 2)]))) p5 (HO.lst [])) p4 = some (.lst ((0 :: ps ++ [l + 1, l + 2]).map iL)) := by
        rw [same_new h5 _ _ upd_same]
        rw [List.map_append]
        rfl
      have hC9 : (upd (upd (upd (upd (upd H' p1 (HO.lst [V.int 0])) p2 (HO.lst ([V.int 0] ++ List.map iL ps))) p3 (HO.lst [V.int ((l : Int) + 1), V.int ((l : Int) + 2)])) p4 (HO.lst ([V.int 0] ++ List.map iL ps ++ [V.int ((l : Int) + 1), V.int ((l : Int) + 2)]))) p5 (HO.lst [])) p5 = some (.lst []) := upd_same
      have n54 : p5 ≠ p4 := fun z => by rw [z, upd_same] at h5; cases h5
      have f4 : H' p4 = none := by
        refine Decidable.by_contra fun z => ?_
        obtain ⟨o, e⟩ := Option.ne_none_iff_exists'.mp z
        rw [same_new h3 _ _ (same_new h2 _ _ (same_new h1 _ _ e))] at h4
        cases h4
      have f5 : H' p5 = none := by
        refine Decidable.by_contra fun z => ?_
        obtain ⟨o, e⟩ := Option.ne_none_iff_exists'.mp z
        rw [same_new h4 _ _ (same_new h3 _ _ (same_new h2 _ _ (same_new h1 _ _ e)))] at h5
        cases h5
      clear h1 h2 h3 h4 h5
      generalize (upd (upd (upd (upd (upd H' p1 (HO.lst [V.int 0])) p2 (HO.lst ([V.int 0] ++ List.map iL ps))) p3 (HO.lst [V.int ((l : Int) + 1), V.int ((l : Int) + 2)])) p4 (HO.lst ([V.int 0] ++ List.map iL ps ++ [V.int ((l : Int) + 1), V.int ((l : Int) + 2)]))) p5 (HO.lst [])) = H9 at s9 hG9 hC9 ⊢
      have w9 := wl'.but s9
      have hD9 := s9 _ _ hD'
      have hu9 : ∀ c, H' c = none → c ≠ u := fun c e z => by
        obtain ⟨_, _, _, e2, _⟩ := wl'
        rw [z, e2] at e
        cases e
      have n4u := hu9 _ f4
      have n5u := hu9 _ f5
      have b9 : But u H H9 := fun c o q e => s9 _ _ (hb _ _ q e)
      have hf : ∀ c, H' c = none → H c = none := fun c e => by
        refine Decidable.by_contra fun z => ?_
        obtain ⟨o, eo⟩ := Option.ne_none_iff_exists'.mp z
        rw [hb _ _ (hu9 _ e) eo] at e
        cases e
      have g999 : ∀ g ∈ 0 :: ps ++ [l + 1, l + 2], g ≤ 999 := fun g hg => by
        rcases List.mem_append.mp hg with hg | hg
        · rcases List.mem_cons.mp hg with rfl | hg
          · omega
          · have := hpl g hg
            omega
        · simp only [List.mem_cons, List.not_mem_nil, or_false] at hg
          omega
      have g3 : 3 ≤ (0 :: ps ++ [l + 1, l + 2]).length ∧ (0 :: ps ++ [l + 1, l + 2]).length ≤ 40 := by
        rw [List.length_append, List.length_cons]
        show 3 ≤ ps.length + 1 + 2 ∧ ps.length + 1 + 2 ≤ 40
        omega
      have gl : (0 :: ps ++ [l + 1, l + 2]).length = ps.length + 3 := by
        rw [List.length_append, List.length_cons]; rfl
      generalize (0 :: ps ++ [l + 1, l + 2]) = gs at hG9 g999 g3 gl
      refine sq fun U hU => ?_
      walk_at "rd"
      refine ⟨_, SqL.of hD9, for_enumL (xs := ps.map iL) (dp2 K H u D p4 p5 m n l ps gs) ⟨b9, w9, hD9, hG9, [], [], v1, v4, v5, v6, hC9, .nil, rfl, fun _ z => (nomatch z), rfl⟩ (fun i σ H' _ h => SqL.of h.2.2.1) ?_ ?_⟩
      · rintro i x σ H1 N hi ⟨hb1, w1, hD1, hG1, xs, cs, v1, v4, v5, v6, hC1, hP1, ec, hcg, rfl⟩ hN
        obtain ⟨p, hp, rfl⟩ := map_at hi
        have s2 : Same H1 (upd H1 N (.tup [.int (i : Nat), iL p])) := same_new hN
        have hN2 : SqT K (upd H1 N (.tup [.int (i : Nat), iL p])) N [.int (i : Nat), iL p] := SqT.of upd_same
        have hC2 := s2 _ _ hC1
        have hD2 := s2 _ _ hD1
        have hG2 := s2 _ _ hG1
        have w2 := w1.but s2
        have hb2 : But u H (upd H1 N (.tup [.int (i : Nat), iL p])) := fun c o q e => s2 _ _ (hb1 _ _ q e)
        have hP2 : Prs K (upd H1 N (.tup [.int (i : Nat), iL p])) xs (cs.map ck) := hP1.up s2
        generalize upd H1 N (.tup [.int (i : Nat), iL p]) = H2 at hN2 hC2 hD2 hG2 w2 hb2 hP2 ⊢
        clear s2 hN hb1 w1 hD1 hG1 hC1 hP1
        have il := (List.getElem?_eq_some_iff.mp hp).1
        have hg2 : (gs.map iL)[((i : Int) + 2).toNat]? = some (iL (gs[i + 2]'(by omega))) := by
          rw [show ((i : Int) + 2).toNat = i + 2 by omega, List.getElem?_map, List.getElem?_eq_getElem (by omega)]
          rfl
        walk_at "rd"
        refine ⟨_, hN2, rfl, _, _, rfl, _, _, rfl, rfl, ?_⟩
        refine ⟨i, rfl, _, SqL.of hG2, _, atI_nn (by omega) hg2, u, 3, rfl, w2, by decide, by decide, fun d H3 b3 w3 d0 d1 => ⟨d, rfl, ?_⟩⟩
        have fin : ∀ (g : Nat) (H4 : Hp), g ∈ gs → But u H2 H4 → WellAt H4 u → (tyV K "list" (V.ref p5) H4 ∧ 2 ≤ sizeLine ∧ ∀ N2, H4 N2 = none → rAppend (V.ref p5) [V.ref N2] (upd H4 N2 (.tup [iL p, iL g])) fun _ H1 => dp2 K H u D p4 p5 m n l ps gs (i + 1) [some (V.ref u), some (V.int m), some (V.int n), some (V.int l), some (V.ref D), v1, some (V.ref p4), some (V.ref p5), some (V.int i), some (iL p), some (iL g)] H1) := fun g H4 hg b4 w4 => by
          have hC4 := b4 _ _ n5u hC2
          have hD4 := b4 _ _ nDu hD2
          have hG4 := b4 _ _ n4u hG2
          refine ⟨.inl ⟨rfl, _, SqL.of hC4⟩, by omega, fun N2 hN2' => ?_⟩
          have s5 : Same H4 (upd H4 N2 (.tup [iL p, iL g])) := same_new hN2'
          have hN5 : upd H4 N2 (.tup [iL p, iL g]) N2 = some (.tup [iL p, iL g]) := upd_same
          have w5 := w4.but s5
          generalize upd H4 N2 (.tup [iL p, iL g]) = H5 at s5 hN5 w5 ⊢
          have hw2 : ∃ o, H2 u = some o ∧ ∀ xs, o ≠ .tup xs ∧ ∀ ob, o ≠ .frz ob (.tup xs) := by
            obtain ⟨q1, q2, q3, e, _⟩ := w2
            exact ⟨_, e, lst_no⟩
          obtain ⟨o2, e2, no2⟩ := hw2
          have hP5 : Prs K H5 xs (cs.map ck) := (hP2.but b4 e2 no2).up s5
          have new1 : Prs K H5 [.ref N2] [ck (p, g)] := .cons (SqT.of hN5) .nil
          have hP6 : Prs K H5 (xs ++ [.ref N2]) ((cs ++ [(p, g)]).map ck) := by
            rw [List.map_append]
            exact hP5.append new1
          have hC5 := s5 _ _ hC4
          have lx := hP5.len
          rw [List.length_map] at lx
          have lc : cs.length = i := by
            have := congrArg List.length ec
            rw [List.length_map, List.length_take] at this
            omega
          have b6 : But p5 H5 (upd H5 p5 (.lst (xs ++ [.ref N2]))) := But.put
          have nC : ∀ c o, H5 c = some o → c ≠ p5 → upd H5 p5 (.lst (xs ++ [.ref N2])) c = some o := fun c o e n => b6 _ _ n e
          refine ⟨p5, xs, .ref N2, rfl, rfl, hC5, by omega, fun c o q e => ?_, ?_, nC _ _ (s5 _ _ hD4) (fun z => ?_), nC _ _ (s5 _ _ hG4) (Ne.symm n54), xs ++ [.ref N2], cs ++ [(p, g)], _, _, _, _, upd_same, hP6.but b6 hC5 lst_no, ?_, fun c hc => ?_, rfl⟩
          · have nc : c ≠ p5 := fun z => by
              rw [z, hf _ f5] at e
              cases e
            exact nC _ _ (s5 _ _ (b4 _ _ q (hb2 _ _ q e))) nc
          · obtain ⟨q1, q2, q3, e, q4⟩ := w5
            exact ⟨q1, q2, q3, by rw [upd_ne (Ne.symm n5u)]; exact e, q4⟩
          · rw [z, f5] at hD'
            cases hD'
          · rw [List.map_append, ec, List.take_succ, hp]
            rfl
          · rcases List.mem_append.mp hc with hc | hc
            · exact hcg c hc
            · rw [List.mem_singleton.mp hc]
              exact hg
        by_cases c0 : 0 < d
        · rw [if_pos c0]
          refine ⟨u, .ref p4, _, rfl, w3, fun z => n4u (by injection z), .lst (b3 _ _ n4u hG2), by rw [List.length_map]; omega, by rw [List.length_map]; omega, fun y H4 b4 w4 hy => ?_⟩
          obtain ⟨g, hg, rfl⟩ := List.mem_map.mp hy
          exact fin g H4 hg (b3.trans b4) w4
        · rw [if_neg c0]
          exact fin _ H3 (List.getElem_mem _) b3 w3
      · rintro σ H1 ⟨hb1, w1, hD1, hG1, xs, cs, v1, v4, v5, v6, hC1, hP1, ec, hcg, rfl⟩
        refine hU _ _ ?_
        walk_at "rd"
        refine ⟨by omega, fun t ht => ?_⟩
        rw [List.length_map, List.take_length] at ec
        have lc : cs.length = ps.length := by
          have := congrArg List.length ec
          rwa [List.length_map] at this
        have asc : Asc cs := by
          unfold Asc
          have : (cs.map fun c => c.1).Pairwise (· < ·) := by rw [ec]; exact hpw
          exact List.pairwise_map.mp this
        have s5 : Same H1 (upd H1 t (.tup [.ref p5, .ref p4])) := same_new ht
        refine k t p5 p4 xs cs gs _ (fun c o q e => s5 _ _ (hb1 _ _ q e)) (w1.but s5) (SqT.of upd_same) (s5 _ _ hC1) (hP1.up s5) ⟨by omega, fun c hc => ?_, asc⟩ (by omega) (s5 _ _ hG1) g3.1 g3.2 g999 (hf _ f5) (hf _ f4)
        have m1 : c.1 ∈ ps := by
          rw [← ec]
          exact List.mem_map_of_mem hc
        have := hpl _ m1
        exact ⟨by omega, by omega, g999 _ (hcg c hc)⟩
end
end K10

set_option Elab.async false
set_option linter.all false
set_option maxRecDepth 100000
set_option maxHeartbeats 4000000
namespace K10
open PySem PySem.Spec PyProof.Rows L2 Rd Dt Dq Pk Ln En Sx Sy
local macro_rules | `(tactic| walk_at "rd") => `(tactic| try simp only [↓Sy.tTupP_, ↓Sy.rTupP_, ↓Sy.rCatP_, ↓Sy.rSlP_, ↓Sy.rDictT_, ↓Sy.tDGet_, ↓Sy.tDGet1_, ↓Sy.tDIn_, ↓Sy.tDNotIn_, ↓Sy.tMeth_, ↓Sy.tMethKw_, ↓Sy.rSortedS_, ↓Sx.rIsT_, ↓En.tFor_enumT, ↓Sy.tFor_enumL, ↓Rv.tMakeKw_, ↓Prp.tProp_, ↓Lo.tBits_, ↓Lo.tJs_n, ↓Lo.tJs_c, ↓Lo.tFmt_, ↓Lo.gFld_, ↓Lo.tMake_, ↓Lo.rOwn_, ↓Rg.tFor_range3, ↓Rg.tLc_range3, ↓Rg.tLstC_, ↓Rg.tLc_rngV, ↓Le.rNeLE_, ↓Le.rEqLE_, ↓Ls.tLc_str, ↓Ls.sDPut_, ↓Rl.rReprL_, ↓Rl.tCallKS_, ↓Ob.tFld_, ↓Ob.sFld_, ↓tVar_, ↓tC_, ↓tM1, ↓tDNewK_, ↓tOp_, ↓tUn_, ↓rI_, ↓rI0_, ↓rU_, ↓eq_ii, ↓ne_ii, ↓eq_ss, ↓ne_ss, ↓eq_bb, ↓ne_bb, ↓tAndV_, ↓tOrV_, ↓tNotV_, ↓tIf_, ↓tTest_, ↓tB_, ↓tAnd_, ↓tOr_, ↓tNot_, ↓tChain_, ↓tNil_, ↓tCons_, ↓tTup_, ↓tLst_, ↓tCB_, ↓tCall_, ↓tSeq_, ↓tNext_, ↓tRet_, ↓tRetN_, ↓tDrop_, ↓tBreak_, ↓tNever_, ↓tIfS_, ↓tAsg_, ↓gName_, ↓gTup_, ↓gCons_, ↓gNil_, ↓gSub_, ↓tPar_, ↓tPar3_, ↓tSl_, ↓tNoPart_, ↓tPart_, ↓tBM_, ↓tFor_range1, ↓tFor_range2, ↓tFor_list, ↓tFor_tup, L2.start, List.headD_cons, List.headD_nil, List.tail_cons, List.map_cons, List.map_nil, List.length_cons, List.length_nil, List.replicate, List.append_nil, List.nil_append, List.cons_append, List.getElem?_cons_zero, List.getElem?_cons_succ, List.set_cons_zero, List.set_cons_succ, Option.some.injEq, V.int.injEq, V.bl.injEq, V.str.injEq, V.ref.injEq, exists_eq_left, exists_eq_left', exists_eq_right, exists_eq, exists_and_left, and_true, true_and, decide_eq_true_eq, Nat.reduceAdd, Nat.reduceSub, Nat.add_zero, Nat.zero_add, List.cons.injEq, Bool.not_eq_true', decide_eq_false_iff_not, eq_self, reduceCtorEq, Bool.false_eq_true, if_true, if_false, ite_true, ite_false, and_self, ↓tLc_range1, ↓tLc_range2, ↓tLc_list, ↓tLc_tup, ↓tYes_, wipe0, wipe1, ↓tCallS_, ↓rIxL_, ↓rIxT_, ↓rSlL_, ↓rCat_, ↓rSetL_, ↓rRep_, ↓rGcd_, ↓tCallK_, ↓gUnl_, ↓tRaise_, decide_true, decide_false, not_true_eq_false, not_false_eq_true, false_and, or_false, false_or, and_false, and_assoc, exists_const, forall_const, forall_eq'])
section
variable {P : Program} {w : World} {K : PySem.W.Frag} {mg : Str → Option Value} {base : Heap}
/-! ### the law's text, its arrows, what is turned -/
def spStT (K : PySem.W.Frag) : Sp := fun vs H Q _ => ∃ (a b : Addr) (ns cs : List (Nat × Nat)), vs = [.ref a, .ref b] ∧ PrsAt K H a (ns.map nk) ∧ PrsAt K H b (cs.map ck) ∧ NmOk ns ∧ ClOk cs ∧ ∀ H', Same H H' → Q (.str (storeT ns cs)) H'
def spArr (K : PySem.W.Frag) : Sp := fun vs H Q _ => ∃ (b : Addr) (cs : List (Nat × Nat)), vs = [.ref b] ∧ PrsAt K H b (cs.map ck) ∧ ClOk cs ∧ ∀ (p : Addr) (H' : Hp), Same H H' → H' p = some (.dK (cs.map ck)) → Q (.ref p) H'
def arP (H : Hp) (b D : Addr) (cs : List (Nat × Nat)) (i : Nat) : L2.St → Hp → Prop := fun σ H' => Same H H' ∧ H' D = some (.dK ((cs.take i).map ck)) ∧ ∃ v1 v2 : Option V, σ = [some (.ref b), some (.ref D), v1, v2]
theorem sc_aw : FnScope ["_law_cells", "_law_found", "_law_place", "_law_goal"] ["_law_cells"] (defScope (top 35)) := ⟨rfl, rfl, rfl, by decide +kernel, rfl, by decide +kernel, by decide +kernel⟩
theorem ok_aw {f : Addr} {fd : FuncData} (T : Tx mg) (F : FD K "_law_arrows" (top 35) f fd) : FnOk P w K mg base CX0 1 f fd ["_law_cells"] (spArr K) := by
  refine F.ok sc_aw (fun vs H Q E h => ?_) (fun cdv A outer s H vs Q E hr h => ?_)
  · obtain ⟨_, _, rfl, _⟩ := h
    rfl
  · obtain ⟨b, cs, rfl, hc, okc, k⟩ := h
    have nd := sc_aw.nd
    have zl : (1000000 : Nat) ≤ sizeLine := line_big
    obtain ⟨xs, pl, prs⟩ := hc
    have hl := prs.len
    rw [List.length_map] at hl
    refine ⟨_, (pss_cons (ps_set (i := 1) nd rfl (Or.inl rfl) pe_dnewK)
        (pss_cons (ps_for (passes_of rfl) rfl (pi_tup (pv 0)) (pg_tup rfl (pgs_cons (pg_name (i := 2) nd rfl (Or.inl rfl) (hf := Or.inr rfl)) (pgs_cons (pg_name (i := 3) nd rfl (Or.inl rfl) (hf := Or.inr rfl)) pgs_nil))) (pss_one (ps_dput (hu_of hr) (pv 1) (pv 2) (pv 3) rfl)))
        (pss_one (ps_ret (pv 1))))), ?_⟩
    refine sq fun U hU => ?_
    walk_at "rd"
    intro D hD
    refine hU _ _ ?_
    clear hU
    refine sq fun U hU => ?_
    walk_at "rd"
    refine ⟨⟨_, sqt_up (same_new hD) pl.sqt⟩, for_t (K := K) (a := b) (xs := xs) (arP H b D cs) ⟨same_new hD, upd_same, _, _, rfl⟩ (fun i σ H' _ h => sqt_up h.1 pl.sqt) ?_ ?_⟩
    · rintro i x σ H' hi ⟨hs, hD', v1, v2, rfl⟩
      obtain ⟨kv, p, hkv, rfl, eb⟩ := (prs.up hs).atV hi
      obtain ⟨n, hn, rfl⟩ := map_at hkv
      have eb : SqT K H' p [.int n.1, .int n.2] := eb
      walk_at "rd"
      have ll : (cs.take i).length ≤ 500 := by rw [List.length_take]; have := okc.1; omega
      have e1 : putK ((cs.take i).map ck) (Sum.inl (n.1 : Int)) (V.int n.2) = (cs.take (i + 1)).map ck := by
        rw [Sx.putK_new, List.take_succ, hn, List.map_append]
        · rfl
        · intro x hx
          obtain ⟨m, hm, rfl⟩ := List.mem_map.mp hx
          have : m.1 < n.1 := by
            have hp := okc.2.2
            obtain ⟨j, hj, rfl⟩ := List.mem_iff_getElem.mp hm
            rw [List.length_take] at hj
            rw [List.getElem_take]
            obtain ⟨hi2, rfl⟩ := List.getElem?_eq_some_iff.mp hn
            exact List.pairwise_iff_getElem.mp hp j i (by omega) hi2 (by omega)
          intro z
          have : (Sum.inl (m.1 : Int) : Key) = .inl (n.1 : Int) := z
          injection this with this
          omega
      refine ⟨_, eb, rfl, _, _, rfl, _, _, rfl, rfl, _, DPut.k (k := Sum.inl (n.1 : Int)) hD' (by rw [List.length_map]; omega), fun c o e => ?_, ?_, _, _, rfl⟩
      · rw [upd_ne (ne_of_none e hD)]
        exact hs _ _ e
      · rw [upd_same, e1]
    · rintro σ H' ⟨hs, hD', v1, v2, rfl⟩
      rw [hl, List.take_length] at hD'
      refine hU _ _ ?_
      walk_at "rd"
      exact k D H' hs hD'
end
end K10

set_option Elab.async false
set_option linter.all false
set_option maxRecDepth 100000
set_option maxHeartbeats 4000000
/-! sorted of a tuple of pairs; set of a list of ints -/
namespace So
open PySem PySem.Spec PyProof.Rows L2 Rd Dt Pk Ln En Sx Sy
section
variable {P : Program} {w : World} {A : Around} {E : Value → Shared → Prop} {s : Shared}
/-- what stands behind a collected row -/
abbrev gath (h : Heap) (vs : List Value) : Heap := (h.push (seqObj "list" #[] 0)).update h.objs.size (Obj.mapSeq (· ++ vs.toArray))
theorem gath_tuple {l : Addr} {vs : List Value} {Q : List Value → Shared → Prop} (hl : s.heap.IsTuple l vs.toArray) (hz : vs.length ≤ sizeLine)
    (h : Q vs { s with heap := gath s.heap vs }) : wpAny (model P w) A (collect (.ref l)) Q E s := by
  have ⟨o, ho, hc, n, hd⟩ := hl
  have old : (s.heap.push (seqObj "list" #[] 0)).get? l = some o := Heap.get?_push_of_some _ ho
  have new : (s.heap.push (seqObj "list" #[] 0)).get? s.heap.objs.size = some (seqObj "list" #[] 0) := Heap.get?_push_size _ rfl
  unfold collect
  refine wpAny_bind (wpAny_runValue (codeAny_builtin entry_proto_collect' ?_))
  show wpAny _ _ (do again (.builtin "list.__iadd__" ⟨[← newList [], .ref l], []⟩)) _ _ s
  refine wpAny_bind (wpAny_newList (wpAny_pure ⟨Code.quiet_builtin _ (by decide +kernel), codeAny_builtin entry_list_iadd' ?_⟩))
  show wpAny _ _ (Builtin.List.listExtendWith (.ref s.heap.objs.size) (.ref l) (.ref s.heap.objs.size)) _ _ { s with heap := s.heap.push (seqObj "list" #[] 0) }
  unfold Builtin.List.listExtendWith
  refine wpAny_bind (wpAny_typeOf (T := "tuple") ⟨o, old, hc⟩ ?_)
  have tt : (Value.type "tuple" == Value.type "tuple") = true := by rfl
  rw [if_pos (by rw [tt]; simp)]
  refine wpAny_bind (listItems_at old hd (wpAny_bind (listItems_at (xs := #[]) (n := 0) new rfl ?_)))
  rw [if_neg (by simp)]
  refine wpAny_bind (listUpdate_at (xs := #[]) (n := 0) new rfl ?_ (Nat.zero_le _) (by show (#[] ++ vs.toArray).size ≤ sizeLine + 1; simp only [Array.size_append, List.size_toArray, List.length_nil]; omega))
  refine wpAny_pure ?_
  show wpAny (model P w) A (do
      let o ← load s.heap.objs.size
      match o.data with
      | .seq xs _ => pure xs.toList
      | _ => unsupported "internal:collect") Q E { s with heap := gath s.heap vs }
  refine wpAny_bind (wpAny_load (get?_update_seq new _) ?_)
  show wpAny _ _ (pure ((#[] : Array Value) ++ vs.toArray).toList) Q E _
  have e : ((#[] : Array Value) ++ vs.toArray).toList = vs := by simp
  rw [e]
  exact wpAny_pure h
/-- sorted(t): the collected row is sorted in place -/
theorem sortT {l : Addr} {vs : List Value} {ltv : Value → Value → Bool} {Q : Value → Shared → Prop} (O : SrtO.Swo ltv) (hl : s.heap.IsTuple l vs.toArray) (hz : vs.length ≤ sizeLine)
    (hS : 2 ≤ vs.length → ∀ (h1 : Heap) (a : Addr), h1.get? a = some (seqObj "list" vs.toArray 0) → (∀ b o, s.heap.get? b = some o → b ≠ a ∧ h1.get? b = some o) → SrtO.SortableO P w A.in1.in1 { s with heap := h1 } a vs ltv)
    (h : ∀ out : List Value, SrtO.Srtd ltv out → SrtO.Stb ltv out vs → Q (.ref (s.heap.objs.size + 1)) { s with heap := sortedAll s.heap vs out.toArray }) :
    wpAny (model P w) A (call (.builtin "sorted") [.ref l]) Q E s := by
  refine Calls.call_function_entry kind_sorted plain_sorted entry_sorted (args_sorted1 _) ?_
  unfold Builtin.«sorted»
  refine wpAny_bind (m := checkCount "sorted" 1 1 _) (wpAny_pure (wpAny_bind (gath_tuple hl hz (wpAny_bind (wpAny_newList ?_ hz)))))
  have sz : (gath s.heap vs).objs.size = s.heap.objs.size + 1 := by rw [Heap.size_update]; exact Heap.size_push ..
  have mine : ((gath s.heap vs).push (seqObj "list" vs.toArray 0)).get? (s.heap.objs.size + 1) = some (seqObj "list" vs.toArray 0) := by
    rw [← sz]
    exact Heap.get?_push_size _ rfl
  have rest : ∀ b o, s.heap.get? b = some o → b ≠ s.heap.objs.size + 1 ∧ ((gath s.heap vs).push (seqObj "list" vs.toArray 0)).get? b = some o := fun b o q => by
    have lt := Heap.lt_size q
    refine ⟨Nat.ne_of_lt (Nat.lt_succ_of_lt lt), Heap.get?_push_of_some _ ?_⟩
    rw [Heap.get?_update_ne _ _ _ _ (Nat.ne_of_lt lt)]
    exact Heap.get?_push_of_some _ q
  show wpAny _ _ _ _ _ { s with heap := (gath s.heap vs).push (seqObj "list" vs.toArray 0) }
  rw [sz]
  refine wpAny_bind (wpAny_holding (wpAny_call_entry slot_list_sort ⟨_, mine, rfl⟩ entry_list_sort (SrtO.list_sort_ord O mine hz (fun z => hS z _ _ mine rest) fun out a b => ⟨_, rfl, ?_⟩) (args_list_sort _)))
  exact wpAny_pure ⟨_, rfl, h out a b⟩
end
/-- sorted(t), t a tuple of pairs of ints of any length -/
def rSortedPT (K : PySem.W.Frag) : List V → Hp → VK → Prop := fun vs H Q => ∃ (a : Addr) (xs : List V) (k : V → Int × Int), vs = [V.ref a] ∧ SqT K H a xs ∧ (∀ x ∈ xs, ∃ t, x = V.ref t ∧ SqT K H t [.int (k x).1, .int (k x).2]) ∧
  ∀ ys p, SrtO.Srtd (ltP k) ys → SrtO.Stb (ltP k) ys xs → H p = none → Q (.ref p) (upd H p (.lst ys))
section
variable {X : Cx} {K : PySem.W.Frag}
theorem cr_sortedPT (hK : X.K = K) : CallR X (.builtin "sorted") (rSortedPT K) := by
  subst hK
  intro pins s σ H vs us Q I r h
  obtain ⟨a, xs, k, rfl, hs, hx, q⟩ := h
  obtain ⟨its, rv, hl, hz⟩ := I.tuple hs
  obtain ⟨u, rfl, ru⟩ := vals1 r
  cases ru
  obtain ⟨e1, e2⟩ := refs_back rv fun x m => by
    obtain ⟨t, e, _⟩ := hx x m
    exact ⟨t, e⟩
  have hp : ∀ v ∈ its, Srt.IsPair s.heap v (k (backV v)).1 (k (backV v)).2 := fun v hv => by
    obtain ⟨t, rfl⟩ := e2 v hv
    have hm : V.ref t ∈ xs := by rw [e1]; exact List.mem_map.mpr ⟨_, hv, rfl⟩
    obtain ⟨t', e, ht⟩ := hx _ hm
    cases e
    obtain ⟨us2, r2, ⟨o, ho, hc, n, hd⟩, _⟩ := I.tuple ht
    obtain ⟨u1, u2, rfl, ⟨t1, rfl⟩, ⟨t2, rfl⟩⟩ := vals2 r2
    exact ⟨t, o, t1, t2, n, rfl, ho, hc, hd⟩
  refine sortT (SrtO.swo_lex fun u => k (backV u)) hl (by rw [← rv.length]; exact hz) (fun h2 h1 b hb kk => ?_) fun out ho hb => ?_
  · refine SrtO.pairs_sortableO (s := { s with heap := h1 }) (by omega) (fun v hv => (hp v hv).keeps fun b o e _ => (kk b o e).2) fun o e => ?_
    have e' : some o = some (seqObj "list" its.toArray 0) := e.symm.trans hb
    cases e'
    exact fun c => absurd (Value.type.inj c) (by decide)
  · have h3 : ∀ u ∈ out, ∃ a, u = Value.ref a := fun u hu => e2 u (hb.perm.mem_iff.mp hu)
    obtain ⟨n, hn⟩ := PyProof.Rows.sortedAll_at s.heap its out.toArray
    have hs2 : SrtO.Stb (ltP k) (out.map backV) xs := by
      rw [e1]
      exact SrtO.Stb.map (ltP_swo k) backV hb
    refine ⟨.ref _, upd H (s.heap.objs.size + 1) (.lst (out.map backV)), I.laid (t' := s.toks) (fun _ _ => PyProof.Rows.sortedAll_old) (Nat.le_succ _) ⟨?_, out, n, vals_back h3, hn⟩, rfl, q _ _ (SrtO.srtd_map ho) hs2 (I.hok.fresh (Nat.le_succ _))⟩
    rw [hs2.len]
    exact hz
end
/-! ### set(l) of a list of ints -/
section
variable {P : Program} {w : World} {A : Around} {E : Value → Shared → Prop} {s : Shared}
/-- the empty set as it is made -/
abbrev emp (w : World) : Obj := { cls := .type "set", dict := none, data := .set #[] 0 (.fresh 0 0 (!w.params.followText "set-order")) }
set_option maxHeartbeats 8000000 in
theorem setL {l : Addr} {items : Array Value} (ns : List Int) {Q : Value → Shared → Prop} (hh : A.handled = none) (hl : s.heap.IsList l items) (hit : IntsAre items.toList ns) (hb : ns.length + 1 < scanBound)
    (h : ∀ (h' : Heap) (tk c : Nat), SetR w h' s.heap.objs.size (fun j => decide (j ∈ ns)) c → c ≤ ns.length → (∀ b o, s.heap.get? b = some o → h'.get? b = some o) → Q (.ref s.heap.objs.size) { s with heap := h', toks := tk }) :
    wpAny (model P w) A (call (.type "set") [.ref l]) Q E s := by
  have sz : items.size = ns.length := by rw [← Array.length_toList]; exact IntsAre.length hit
  obtain ⟨c, tl, hmro⟩ := F.called_set.mro
  have f1 := F.called_set.made
  have f2 := F.called_set.sub
  have f3 := F.called_set.notType
  have f4 := F.called_set.canCreate
  have f5 := F.typeCall_set_1 (.ref l)
  refine wpAny_call (codeAny_of_tree ?_)
  show wpAny _ _ (callAny (.type "set") _) _ _ _
  refine wpAny_pure ⟨Code.quiet_builtin _ (by decide +kernel), codeAny_builtin F.entry_type_call ?_⟩
  rw [Around.under_plain (weight_type_call_type "set" [.ref l] []) rfl]
  repeat (any_goals (first | assumption | wp_step))
  refine codeAny_mono (code_set_led1 (.ref l) (E := E) (Q₁ := fun x s1 => x = .ref s.heap.objs.size ∧ s1 = { s with heap := s.heap.push (emp w) }) ⟨rfl, rfl⟩) fun r s1 hr => ?_
  cases r with
  | error e => exact hr
  | ok fl =>
    cases fl with
    | ret x =>
      obtain ⟨rfl, rfl⟩ := hr
      have mine : (s.heap.push (emp w)).get? s.heap.objs.size = some (emp w) := Heap.get?_push_size _ rfl
      have hT : Shared.TypeIs { s with heap := s.heap.push (emp w) } (.ref s.heap.objs.size) "set" := ⟨_, mine, rfl⟩
      have f6 := F.called_set.init.lookup
      have f7 := F.called_set.init.bind (.ref s.heap.objs.size)
      repeat (any_goals (first | assumption | wp_step))
      refine codeAny_mono (codeAny_call_builtin (R := wants (fun r s2 => r = .none ∧ ∃ h' tk c, s2 = { s with heap := h', toks := tk } ∧ SetR w h' s.heap.objs.size (fun j => decide (j ∈ ns)) c ∧ c ≤ ns.length ∧
          ∀ b o, s.heap.get? b = some o → h'.get? b = some o) E) F.called_set.init.plain F.entry_set_init (check_set_init_1 hT ?_)) fun r2 s2 hr2 => ?_
      · obtain ⟨⟨oc, od, oD, os⟩, hol, hcl, nl, hdl⟩ := hl
        simp only at hcl hdl
        subst hcl; subst hdl
        have old : (s.heap.push (emp w)).get? l = some { cls := .type "list", dict := od, data := .seq items nl, slots := os } := Heap.get?_push_of_some _ hol
        have g1 := F.sub_list_set
        have g2 := F.sub_list_frozenset
        have g3 : (Value.type "list" == Value.type "dict") = false := by decide
        have isl : (s.heap.push (emp w)).IsList l items := ⟨_, old, rfl, nl, rfl⟩
        unfold Builtin.«set.__init__» noKeywords Builtin.Frozenset.updateFrom
        generalize hPI : pyIter = PI
        wp_walk
        subst hPI
        refine wpAny_pyIter_list isl (wpAny_bind (wpAny_runValue ?_))
        have lt := Heap.lt_size hol
        have one : (s.heap.push (emp w)).objs.size = s.heap.objs.size + 1 := Heap.size_push ..
        have h3 : A.in1.in1.in1.handled = none := by simp [hh]
        have n1 : l ≠ (s.heap.push (emp w)).objs.size := by rw [one]; exact Nat.ne_of_lt (Nat.lt_succ_of_lt lt)
        have n2 : s.heap.objs.size ∉ [(s.heap.push (emp w)).objs.size, l] := by
          rw [one]
          intro z
          rcases List.mem_cons.mp z with z | z
          · exact absurd z (Nat.ne_of_lt (Nat.lt_succ_self _))
          · exact absurd (List.mem_singleton.mp z).symm (Nat.ne_of_lt lt)
        refine set_update_ints ((Walks.list h3 _ l n1 items).toS) s.heap.objs.size n2 ns sz hb (fun i v hv => ?_) (items.size - 0) 0 _ (by omega) (Nat.zero_le _)
          ⟨⟨_, Heap.get?_push_size _ rfl, rfl, rfl⟩, isl.push _⟩ ⟨0, Nat.le_refl 0, setR_new_at (Heap.get?_push_of_some _ mine)⟩ fun s' c' hm hc' hS' => ?_
        · have hi : i < ns.length := by rw [← sz]; exact (Array.getElem?_eq_some_iff.mp hv).1
          obtain ⟨t, e⟩ := PyProof.Rows.IntsAre.int_at hit i v (by rw [Array.getElem?_toList]; exact hv)
          refine ⟨ns[i], t, List.getElem?_eq_getElem hi, ?_⟩
          rw [e, List.getD_eq_getElem?_getD, List.getElem?_eq_getElem hi] <;> rfl
        · obtain ⟨h', g', d', tk', os'⟩ := s'
          obtain rfl : g' = s.gens := hm.gens
          obtain rfl : d' = s.drawn := hm.drawn
          obtain rfl : os' = s.os := hm.os
          show wpAny _ _ _ _ _ _
          refine wpAny_pure ?_
          show wpAny _ _ (ret Value.none) _ _ _
          rw [sz] at hc'
          refine wpAny_pure ⟨rfl, h', tk', c', rfl, hS', hc', fun b o e => ?_⟩
          have lb := Heap.lt_size e
          refine hm.heap b o (fun z => ?_) (Heap.get?_push_of_some _ (Heap.get?_push_of_some _ e))
          rcases List.mem_cons.mp z with z | z
          · exact absurd z (Nat.ne_of_lt lb)
          · rw [one] at z
            exact absurd (List.mem_singleton.mp z) (Nat.ne_of_lt (Nat.lt_succ_of_lt lb))
      · cases r2 with
        | error e => exact hr2
        | ok fl2 =>
          cases fl2 with
          | ret r =>
            obtain ⟨rfl, h', tk, c', rfl, hS', hc', hk'⟩ := hr2
            repeat (any_goals (first | assumption | wp_step))
            exact h _ _ _ hS' hc' hk'
          | _ => exact hr2.elim
    | _ => exact hr.elim
end
def rSetLI (w : World) (K : PySem.W.Frag) : List V → Hp → VK → Prop := fun vs H Q => ∃ (p : Addr) (ns : List Int), vs = [.ref p] ∧ SqL K H p (ns.map V.int) ∧ ns.length ≤ 1000 ∧
  ∀ (a : Addr) (c : Nat), H a = none → c ≤ ns.length → Q (.ref a) (upd H a (SetO w a (fun j => decide (j ∈ ns)) c))
section
variable {X : Cx} {K : PySem.W.Frag} {w : World}
/-- set(l) of ints -/
theorem call_setL (hK : X.K = K) (hw : X.w = w) (hc : X.calm = true) : CallR X (.type "set") (rSetLI w K) := by
  subst hK hw
  intro pins s σ H xs us Q I r h
  obtain ⟨p, ns, rfl, hq, hz, q⟩ := h
  obtain ⟨u, rfl, rx⟩ := vals1 r
  cases rx
  obtain ⟨its, rv, hl, _⟩ := I.list hq
  refine setL ns (I.ok.hd hc) hl.isList (by simpa using rv.ints) (by unfold scanBound; omega) fun h' tk c hS hle kp => ?_
  exact ⟨.ref s.heap.objs.size, upd H s.heap.objs.size (SetO X.w s.heap.objs.size (fun j => decide (j ∈ ns)) c), I.laid (t' := tk) kp (Nat.le_refl _) (setO_new hS), rfl, q _ _ (I.hok.fresh (Nat.le_refl _)) hle⟩
end
/-! ### lists of pairs, grown -/
section
variable {K : PySem.W.Frag}
theorem lst_no2 {l : List V} (xs : List V) : HO.lst l ≠ .tup xs ∧ ∀ ob, HO.lst l ≠ .frz ob (.tup xs) := ⟨fun z => (by cases z), fun _ z => (by cases z)⟩
def pairP (K : PySem.W.Frag) (H : Hp) (kvs : List (Key × V)) (D : Addr) (j : Nat) (H' : Hp) : Prop := Same H H' ∧ ∃ xs, H' D = some (.lst xs) ∧ Prs K H' xs (kvs.take j)
theorem pairP_0 {H : Hp} {kvs : List (Key × V)} {D : Addr} (hD : H D = none) : pairP K H kvs D 0 (upd H D (.lst [])) := ⟨same_new hD, [], upd_same, .nil⟩
theorem pairP_step {H H' : Hp} {kvs : List (Key × V)} {D N : Addr} {j : Nat} {kv : Key × V} {x y : V} (hl : kvs.length ≤ 1000) (h : pairP K H kvs D j H') (hD : H D = none) (e : kvs[j]? = some kv) (hN : H' N = none) (ex : x = kV kv.1) (ey : y = kv.2) :
    ∃ acc, (upd H' N (.tup [x, y])) D = some (.lst acc) ∧ acc.length < sizeLine ∧ pairP K H kvs D (j + 1) (upd (upd H' N (.tup [x, y])) D (.lst (acc ++ [V.ref N]))) := by
  obtain ⟨hs, xs, hL, hP⟩ := h
  subst ex ey
  have nDN : D ≠ N := ne_of_none hL hN
  have zl : (1000000 : Nat) ≤ sizeLine := line_big
  have len := hP.len
  have tl : (kvs.take j).length ≤ kvs.length := List.length_take_le' _ _
  have hL2 : (upd H' N (.tup [kV kv.1, kv.2])) D = some (.lst xs) := by rw [upd_ne nDN]; exact hL
  refine ⟨xs, hL2, by omega, fun c o q => ?_, xs ++ [V.ref N], upd_same, ?_⟩
  · rw [upd_ne (ne_of_none q hD), upd_ne (ne_of_none (hs _ _ q) hN)]
    exact hs _ _ q
  · rw [List.take_succ, e]
    have b1 : But D (upd H' N (.tup [kV kv.1, kv.2])) (upd (upd H' N (.tup [kV kv.1, kv.2])) D (.lst (xs ++ [V.ref N]))) := But.put
    refine ((hP.up (same_new hN)).but b1 hL2 lst_no2).append (.cons (SqT.of ?_) .nil)
    rw [upd_ne (Ne.symm nDN)]
    exact upd_same
/-- a list of chosen rows, grown -/
def filP (K : PySem.W.Frag) (H : Hp) (p : Key × V → Bool) (kvs : List (Key × V)) (D : Addr) (j : Nat) (H' : Hp) : Prop := Same H H' ∧ ∃ xs, H' D = some (.lst xs) ∧ Prs K H' xs ((kvs.take j).filter p)
theorem filP_0 {H : Hp} {p : Key × V → Bool} {kvs : List (Key × V)} {D : Addr} (hD : H D = none) : filP K H p kvs D 0 (upd H D (.lst [])) := ⟨same_new hD, [], upd_same, .nil⟩
theorem filP_step {H H' : Hp} {p : Key × V → Bool} {kvs : List (Key × V)} {D b : Addr} {j : Nat} {kv : Key × V} (hl : kvs.length ≤ 1000) (h : filP K H p kvs D j H') (hD : H D = none) (e : kvs[j]? = some kv) (hb : SqT K H' b [kV kv.1, kv.2]) :
    if p kv = true then ∃ acc, H' D = some (.lst acc) ∧ acc.length < sizeLine ∧ filP K H p kvs D (j + 1) (upd H' D (.lst (acc ++ [V.ref b]))) else filP K H p kvs D (j + 1) H' := by
  obtain ⟨hs, xs, hL, hP⟩ := h
  have zl : (1000000 : Nat) ≤ sizeLine := line_big
  have len := hP.len
  have tl : (kvs.take j).length ≤ kvs.length := List.length_take_le' _ _
  have fl := List.length_filter_le p (kvs.take j)
  have eq : (kvs.take (j + 1)).filter p = (kvs.take j).filter p ++ (if p kv = true then [kv] else []) := by
    rw [List.take_succ, e, List.filter_append]
    congr 1
    by_cases d : p kv = true
    · rw [if_pos d]; simp only [Option.toList_some, List.filter_cons, d, if_true, List.filter_nil]
    · rw [if_neg d]; simp only [Option.toList_some, List.filter_cons, d, if_false, List.filter_nil, Bool.false_eq_true]
  split
  · rename_i d
    have b1 : But D H' (upd H' D (.lst (xs ++ [V.ref b]))) := But.put
    refine ⟨xs, hL, by omega, fun c o q => ?_, xs ++ [V.ref b], upd_same, ?_⟩
    · rw [upd_ne (ne_of_none q hD)]
      exact hs _ _ q
    · rw [eq, if_pos d]
      have row : Prs K H' [V.ref b] [kv] := .cons hb .nil
      exact (hP.append row).but b1 hL lst_no2
  · rename_i d
    rw [filP, eq, if_neg d, List.append_nil]
    exact ⟨hs, xs, hL, hP⟩
end
/-! ### sorted of pairs of numbers, by their Prs -/
section
variable {X : Cx} {K : PySem.W.Frag}
def rSortedC (K : PySem.W.Frag) : List V → Hp → VK → Prop := fun vs H Q => ∃ (a : Addr) (cs : List (Nat × Nat)), vs = [V.ref a] ∧ PrsAt K H a (cs.map ck) ∧
  ∀ (zs : List V) (ds : List (Nat × Nat)) (p : Addr), ds.Perm cs → ds.Pairwise (fun x y => x.1 ≤ y.1) → Prs K H zs (ds.map ck) → H p = none → Q (.ref p) (upd H p (.lst zs))
theorem Prs.mem {H : Hp} : ∀ {xs : List V} {kvs : List (Key × V)}, Prs K H xs kvs → ∀ x ∈ xs, ∃ kv ∈ kvs, ∃ t, x = .ref t ∧ SqT K H t [kV kv.1, kv.2]
  | _, _, .nil, _, h => nomatch h
  | _, _, .cons (kv := kv) e h, x, hx => by
    rcases List.mem_cons.mp hx with rfl | hx
    · exact ⟨kv, List.mem_cons_self .., _, rfl, e⟩
    · obtain ⟨kv2, m, q⟩ := Prs.mem h x hx
      exact ⟨kv2, List.mem_cons_of_mem _ m, q⟩
theorem Prs.ofMap {H : Hp} (g : V → Key × V) : ∀ ys : List V, (∀ x ∈ ys, ∃ t, x = .ref t ∧ SqT K H t [kV (g x).1, (g x).2]) → Prs K H ys (ys.map g)
  | [], _ => .nil
  | y :: ys, h => by
    obtain ⟨t, rfl, e⟩ := h y (List.mem_cons_self ..)
    exact .cons e (Prs.ofMap g ys fun x hx => h x (List.mem_cons_of_mem _ hx))
theorem Prs.map_eq {H : Hp} {kk : V → Nat × Nat} : ∀ {xs : List V} {cs : List (Nat × Nat)}, Prs K H xs (cs.map ck) → (∀ t c, SqT K H t [.int (c : Nat × Nat).1, .int c.2] → kk (.ref t) = c) → xs.map kk = cs
  | _, [], .nil, _ => rfl
  | _, c :: cs, .cons e h, u => by
    rw [List.map_cons, Prs.map_eq h u, u _ c e]
open Classical in
theorem cr_sortedC (hK : X.K = K) : CallR X (.builtin "sorted") (rSortedC K) := by
  subst hK
  intro pins s σ H vs us Q I r h
  obtain ⟨a, cs, rfl, ⟨xs, pl, prs⟩, q⟩ := h
  let kk : V → Nat × Nat := fun x => if h : ∃ c : Nat × Nat, ∃ t, x = .ref t ∧ SqT X.K H t [.int c.1, .int c.2] then Classical.choose h else (0, 0)
  have uni : ∀ t (c : Nat × Nat), SqT X.K H t [.int c.1, .int c.2] → kk (.ref t) = c := fun t c e => by
    have hx : ∃ c : Nat × Nat, ∃ t', V.ref t = .ref t' ∧ SqT X.K H t' [.int c.1, .int c.2] := ⟨c, t, rfl, e⟩
    show (if h : _ then Classical.choose h else (0, 0)) = c
    rw [dif_pos hx]
    obtain ⟨t', e1, e2⟩ := Classical.choose_spec hx
    cases e1
    have := I.tuple_inj e2 e
    simp only [List.cons.injEq, V.int.injEq, and_true] at this
    exact Prod.ext (Int.ofNat.inj this.1) (Int.ofNat.inj this.2)
  have all : ∀ x ∈ xs, ∃ t, x = V.ref t ∧ SqT X.K H t [.int (kk x).1, .int (kk x).2] := fun x hx => by
    obtain ⟨kv, m, t, rfl, e⟩ := Prs.mem prs x hx
    obtain ⟨c, _, rfl⟩ := List.mem_map.mp m
    have e' : SqT X.K H t [.int c.1, .int c.2] := e
    exact ⟨t, rfl, by rw [uni t c e']; exact e'⟩
  refine cr_sortedPT rfl pins s σ H _ us Q I r ⟨a, xs, fun x => ((kk x).1, (kk x).2), rfl, pl.sqt, all, fun ys p srt stb hp => ?_⟩
  refine q ys (ys.map kk) p ?_ ?_ ?_ hp
  · have := stb.perm.map kk
    rwa [Prs.map_eq prs uni] at this
  · refine List.pairwise_map.mpr (srt.imp fun {x y} z => ?_)
    have := SrtO.lexB_no.mp z
    show (kk x).1 ≤ (kk y).1
    have e1 : ((kk x).1 : Int) ≤ (kk y).1 := by
      simp only at this
      omega
    omega
  · rw [List.map_map]
    refine Prs.ofMap _ ys fun x hx => ?_
    exact all x (stb.perm.mem_iff.mp hx)
end
end So

set_option Elab.async false
set_option linter.all false
set_option maxRecDepth 100000
set_option maxHeartbeats 2000000
/-! pairs in the order of their first parts; a store's text in one join -/
namespace Sr
open PySem PySem.Spec PyProof.Rows L2 Rd Dt Pk Ln En Sx TL
theorem joinL_app (S : List Nat) (b : List (List Nat)) (hb : b ≠ []) : ∀ a : List (List Nat), a ≠ [] → joinL S (a ++ b) = joinL S a ++ (S ++ joinL S b)
  | [], h => absurd rfl h
  | [x], _ => by
    cases b with
    | nil => exact absurd rfl hb
    | cons y r => rfl
  | x :: y :: r, _ => by
    have ih := joinL_app S b hb (y :: r) (by simp)
    show x ++ (S ++ joinL S (y :: r ++ b)) = x ++ (S ++ joinL S (y :: r)) ++ (S ++ joinL S b)
    rw [ih]
    simp only [List.append_assoc]
theorem store_join {ns cs : List (Nat × Nat)} (h : ns ≠ []) : Txt.join " " (ns.map nameW ++ [("|" : Str)] ++ (if cs = [] then [("none" : Str)] else cs.map cellW)) = storeT ns cs := by
  refine ext_tl ?_
  have hm : (ns.map nameW).map tl ≠ [] := by simp [h]
  unfold storeT namesT cellsT
  rw [join_eq, tl_join, tl_append, tl_append, join_eq, tl_join, List.map_append, List.map_append, List.append_assoc, joinL_app _ _ (by simp) _ hm]
  have e1 : tl " " = [32] := by decide +kernel
  have e2 : tl "|" = [124] := by decide +kernel
  rw [e1, tl_bar]
  by_cases c : cs = []
  · rw [if_pos c, if_pos c]
    show _ ++ ([32] ++ (tl "|" ++ ([32] ++ tl "none"))) = _
    rw [e2]
    simp only [List.append_assoc, List.cons_append, List.nil_append]
  · rw [if_neg c, if_neg c, join_eq, tl_join, e1]
    have e3 : (cs.map cellW).map tl ≠ [] := by simp [c]
    rw [joinL_app _ _ e3 _ (by simp)]
    show _ ++ ([32] ++ (tl "|" ++ ([32] ++ _))) = _
    rw [e2]
    simp only [List.append_assoc, List.cons_append, List.nil_append]
/-- the pairs in order -/
def srt (ds : List (Nat × Nat)) : List (Nat × Nat) := ds.mergeSort fun a b => decide (a.1 ≤ b.1)
theorem srt_perm (ds : List (Nat × Nat)) : (srt ds).Perm ds := List.mergeSort_perm _ _
theorem srt_le (ds : List (Nat × Nat)) : (srt ds).Pairwise fun a b => a.1 ≤ b.1 :=
  (List.pairwise_mergeSort (le := fun a b : Nat × Nat => decide (a.1 ≤ b.1)) (fun a b c h1 h2 => by simp only [decide_eq_true_eq] at *; omega) (fun a b => by simp only [Bool.or_eq_true, decide_eq_true_eq]; omega) ds).imp fun {a b} h => of_decide_eq_true h
theorem srt_asc {ds : List (Nat × Nat)} (h : (ds.map (·.1)).Nodup) : Asc (srt ds) := by
  have n : ((srt ds).map (·.1)).Nodup := ((srt_perm ds).map _).nodup_iff.mpr h
  have n2 : (srt ds).Pairwise fun x y => x.1 ≠ y.1 := List.pairwise_map.mp n
  exact ((srt_le ds).and n2).imp fun {a b} q => by have := q.1; have := q.2; omega
theorem srt_keys {ds : List (Nat × Nat)} {ys : List Int} (p : ys.Perm (ds.map fun d => (d.1 : Int))) (h : ys.Pairwise (· ≤ ·)) : ys = (srt ds).map fun d => (d.1 : Int) := by
  refine List.Perm.eq_of_pairwise (le := fun x y : Int => x ≤ y) (fun a b _ _ q r => by omega) h ?_ (p.trans ((srt_perm ds).symm.map _))
  exact List.pairwise_map.mpr ((srt_le ds).imp fun {a b} q => by omega)
theorem srt_len (ds : List (Nat × Nat)) : (srt ds).length = ds.length := (srt_perm ds).length_eq
theorem srt_nil {ds : List (Nat × Nat)} : srt ds = [] ↔ ds = [] := by
  rw [← List.length_eq_zero_iff, ← List.length_eq_zero_iff, srt_len]
theorem asc_uniq {ds es : List (Nat × Nat)} (h1 : Asc ds) (h2 : Asc es) (p : ds.Perm es) : ds = es :=
  List.Perm.eq_of_pairwise (le := fun x y : Nat × Nat => x.1 < y.1) (fun a b _ _ q r => by omega) h1 h2 p
theorem srt_asc_id {ds : List (Nat × Nat)} (h : Asc ds) : srt ds = ds :=
  asc_uniq (srt_asc (List.pairwise_map.mpr (h.imp fun {a b} q => by omega))) h (srt_perm ds)
theorem look_mem : ∀ {ds : List (Nat × Nat)}, (ds.map (·.1)).Nodup → ∀ {d : Nat × Nat}, d ∈ ds → look ds d.1 = some d.2
  | c :: ds, h, d, hd => by
    rw [List.map_cons, List.nodup_cons] at h
    unfold look
    rw [List.find?_cons]
    by_cases e : c.1 = d.1
    · rw [decide_eq_true e]
      rcases List.mem_cons.mp hd with rfl | hd
      · rfl
      · exact absurd (List.mem_map.mpr ⟨d, hd, e.symm⟩) h.1
    · rw [decide_eq_false e]
      rcases List.mem_cons.mp hd with rfl | hd
      · exact absurd rfl e
      · exact look_mem h.2 hd
theorem look_none {cs : List (Nat × Nat)} {p : Nat} : look cs p = none ↔ ∀ c ∈ cs, c.1 ≠ p := by
  unfold look
  rw [Option.map_eq_none_iff, List.find?_eq_none]
  constructor
  · intro h c hc
    simpa using h c hc
  · intro h c hc
    simpa using h c hc
theorem look_some {cs : List (Nat × Nat)} {p : Nat} : (look cs p).isSome = true ↔ ∃ c ∈ cs, c.1 = p := by
  constructor
  · intro h
    refine Decidable.by_contra fun z => ?_
    have : look cs p = none := look_none.mpr fun c hc e => z ⟨c, hc, e⟩
    rw [this] at h
    cases h
  · rintro ⟨c, hc, e⟩
    cases el : look cs p with
    | none => exact absurd e (look_none.mp el c hc)
    | some v => rfl
end Sr

set_option Elab.async false
set_option linter.all false
set_option maxRecDepth 100000
set_option maxHeartbeats 2000000
/-! a dict walked by its keys: locked while the walk goes on -/
namespace Lk
open PySem PySem.Spec PyProof.Rows L2 Rd Dt Pk Ln En Sx Sy
section
variable {K : PySem.W.Frag} {σ : L2.St} {H H' : Hp} {Q : VK} {t : TE} {ts : TS} {td : TE} {g : TG} {tt : TT} {te : TE} {tb : TS} {vs : List Nat} {D : Ends}
theorem tLockE_ : tLockE t σ H Q = ∃ d u, H d = some u ∧ Mut (some u) ∧ ∀ od, t σ (upd H d (.frz od u)) fun v H' => H' d = some (.frz od u) ∧ Q v (upd H' d u) := rfl
theorem tLock_ : tLock ts D σ H = ∃ d u, H d = some u ∧ Mut (some u) ∧ ∀ od, ts ⟨fun σ' H' => H' d = some (.frz od u) ∧ D.nx σ' (upd H' d u), fun v H' => H' d = some (.frz od u) ∧ D.rt v (upd H' d u), fun σ' H' => H' d = some (.frz od u) ∧ D.bk σ' (upd H' d u), fun σ' H' => H' d = some (.frz od u) ∧ D.ct σ' (upd H' d u)⟩ σ (upd H d (.frz od u)) := rfl
theorem tLc_keys : tLc (iKeys td) g tt te vs σ H Q = td σ H fun x H1 => ∃ d o, x = .ref d ∧ ((∃ kvs, H1 d = some (.frz o (.dK kvs)) ∧ tLc (fun _ H R => R (Itk d o kvs) H) g tt te vs σ H1 Q) ∨ ∃ kvs, H1 d = some (.frz o (.dT kvs)) ∧ tLc (fun _ H R => R (Itkt d o kvs) H) g tt te vs σ H1 Q) := by
  unfold tLc iKeys
  rfl
theorem tFor_keys : tFor (iKeys td) g tb D σ H = td σ H fun x H1 => ∃ d o, x = .ref d ∧ ((∃ kvs, H1 d = some (.frz o (.dK kvs)) ∧ tFor (fun _ H R => R (Itk d o kvs) H) g tb D σ H1) ∨ ∃ kvs, H1 d = some (.frz o (.dT kvs)) ∧ tFor (fun _ H R => R (Itkt d o kvs) H) g tb D σ H1) := by
  unfold tFor iKeys
  rfl
theorem lc_k {d : Addr} {o : Obj} {kvs : List (Key × V)} (Pv : Addr → Nat → Hp → Prop) (h : ∀ D, H D = none → Pv D 0 (upd H D (.lst [])) ∧ (∀ i H', i ≤ kvs.length → Pv D i H' → H' d = some (.frz o (.dK kvs))) ∧ (∀ i kv H', kvs[i]? = some kv → Pv D i H' → Lturn g tt te vs σ D (kV kv.1) H' (Pv D (i + 1))) ∧ (∀ H', Pv D kvs.length H' → Q (.ref D) H')) :
    tLc (fun _ H R => R (Itk d o kvs) H) g tt te vs σ H Q := fun D hD => lc_it walk_keys (Pv D) (h D hD).1 (h D hD).2.1 (fun i x H H' hi hp hy => by
      obtain ⟨rfl, k, v, hk, rfl⟩ := hy
      exact (h D hD).2.2.1 i (k, v) _ hk hp) (h D hD).2.2.2
theorem for_k {d : Addr} {o : Obj} {kvs : List (Key × V)} (Pv : Nat → L2.St → Hp → Prop) (h0 : Pv 0 σ H) (hl : ∀ i σ H, i ≤ kvs.length → Pv i σ H → H d = some (.frz o (.dK kvs)))
    (hs : ∀ i kv σ H, kvs[i]? = some kv → Pv i σ H → g (kV kv.1) σ H fun σ2 H2 => tb { D with nx := Pv (i + 1), ct := Pv (i + 1), bk := D.nx } σ2 H2) (hd : ∀ σ H, Pv kvs.length σ H → D.nx σ H) : tFor (fun _ H R => R (Itk d o kvs) H) g tb D σ H :=
  for_it walk_keys Pv h0 hl (fun i x σ H H' hi hp hy => by
    obtain ⟨rfl, k, v, hk, rfl⟩ := hy
    exact hs i (k, v) σ _ hk hp) hd
theorem unlock_same {d : Addr} {u : HO} {od : Obj} (hd : H d = some u) (s : Same (upd H d (.frz od u)) H') : Same H (upd H' d u) := fun b o e => by
  by_cases c : b = d
  · rw [c] at e ⊢
    rw [upd_same, ← hd, e]
  · rw [upd_ne c]
    exact s _ _ (by rw [upd_ne c]; exact e)
theorem lock_ne {d b : Addr} {u o : HO} {od : Obj} (n : b ≠ d) (e : H b = some o) : upd H d (.frz od u) b = some o := by rw [upd_ne n]; exact e
theorem dget_f {d : Addr} {kvs : List (Key × V)} {k : Key} {od : Obj} (e : H d = some (.frz od (.dK kvs))) : DGet H d (kV k) (valV kvs k) := .inl ⟨kvs, k, .inr ⟨od, e⟩, rfl, rfl⟩
end
end Lk

set_option Elab.async false
set_option linter.all false
set_option maxRecDepth 100000
set_option maxHeartbeats 4000000
/-! rows of numbers in tuples, sorted; ways and rings of arrows, plain -/
namespace Rn
open PySem PySem.Spec PyProof.Rows L2 Rd Dt Pk Ln En Sx Sy
abbrev iN (p : Nat) : V := .int p
inductive Rws (K : PySem.W.Frag) (H : Hp) : List V → List (List Nat) → Prop
  | nil : Rws K H [] []
  | cons {t : Addr} {r : List Nat} {xs : List V} {rs : List (List Nat)} : SqT K H t (r.map iN) → Rws K H xs rs → Rws K H (.ref t :: xs) (r :: rs)
section
variable {X : Cx} {K : PySem.W.Frag} {H H' : Hp}
theorem Rws.keep (s : ∀ a xs, SqT K H a xs → SqT K H' a xs) : ∀ {xs : List V} {rs : List (List Nat)}, Rws K H xs rs → Rws K H' xs rs
  | _, _, .nil => .nil
  | _, _, .cons e h => .cons (s _ _ e) (h.keep s)
theorem Rws.up (s : Same H H') {xs : List V} {rs : List (List Nat)} (h : Rws K H xs rs) : Rws K H' xs rs := h.keep fun _ _ e => sqt_up s e
theorem Rws.len : ∀ {xs : List V} {rs : List (List Nat)}, Rws K H xs rs → xs.length = rs.length
  | _, _, .nil => rfl
  | _, _, .cons _ h => congrArg (· + 1) h.len
theorem Rws.append : ∀ {xs ys : List V} {rs ss : List (List Nat)}, Rws K H xs rs → Rws K H ys ss → Rws K H (xs ++ ys) (rs ++ ss)
  | _, _, _, _, .nil, g => g
  | _, _, _, _, .cons e h, g => .cons e (h.append g)
theorem Rws.mem : ∀ {xs : List V} {rs : List (List Nat)}, Rws K H xs rs → ∀ x ∈ xs, ∃ r ∈ rs, ∃ t, x = .ref t ∧ SqT K H t (r.map iN)
  | _, _, .nil, _, h => nomatch h
  | _, _, .cons (r := r) e h, x, hx => by
    rcases List.mem_cons.mp hx with rfl | hx
    · exact ⟨r, List.mem_cons_self .., _, rfl, e⟩
    · obtain ⟨r2, m, q⟩ := h.mem x hx
      exact ⟨r2, List.mem_cons_of_mem _ m, q⟩
theorem Rws.ofMap (g : V → List Nat) : ∀ ys : List V, (∀ x ∈ ys, ∃ t, x = .ref t ∧ SqT K H t ((g x).map iN)) → Rws K H ys (ys.map g)
  | [], _ => .nil
  | y :: ys, h => by
    obtain ⟨t, rfl, e⟩ := h y (List.mem_cons_self ..)
    exact .cons e (Rws.ofMap g ys fun x hx => h x (List.mem_cons_of_mem _ hx))
theorem Rws.map_eq {kk : V → List Nat} : ∀ {xs : List V} {rs : List (List Nat)}, Rws K H xs rs → (∀ t (r : List Nat), SqT K H t (r.map iN) → kk (.ref t) = r) → xs.map kk = rs
  | _, _, .nil, _ => rfl
  | _, _, .cons e h, u => by rw [List.map_cons, h.map_eq u, u _ _ e]
theorem iN_inj : ∀ {r s : List Nat}, r.map iN = s.map iN → r = s
  | [], [], _ => rfl
  | [], _ :: _, h => by cases h
  | _ :: _, [], h => by cases h
  | a :: r, b :: s, h => by
    simp only [List.map_cons, List.cons.injEq, V.int.injEq] at h
    rw [Int.ofNat.inj h.1, iN_inj h.2]
/-- what a row of whole numbers is as a sort's key -/
theorem items_of : ∀ {r : List Nat} {us : List Value} (i : Nat), Vals (r.map iN) us → PyProof.Rows.tupItems (fun _ => false) i us = some (r.map fun p : Nat => Sum.inl (p : Int))
  | [], _, _, .nil => rfl
  | p :: r, _, i, .cons h t => by
    obtain ⟨tk, rfl⟩ := h
    show (PyProof.Rows.tupItems (fun _ => false) (i + 1) _).map (Sum.inl (p : Int) :: ·) = _
    rw [items_of (i + 1) t]
    rfl
theorem tups_of {h : Heap} {sh : Nat → Bool} : ∀ its : List Value, (∀ u ∈ its, ∃ f, PyProof.Rows.TupOf h sh u f) → ∃ fs, PyProof.Rows.TupsOf h sh its fs
  | [], _ => ⟨[], .nil⟩
  | u :: its, g => by
    obtain ⟨f, hf⟩ := g u (List.mem_cons_self ..)
    obtain ⟨fs, hs⟩ := tups_of its fun x hx => g x (List.mem_cons_of_mem _ hx)
    exact ⟨f :: fs, .cons hf hs⟩
theorem head_le {r s : List Nat} (hr : r ≠ []) (hs : s ≠ []) (h : PyProof.Rows.lexLt PyProof.Rows.itemOrd (s.map fun p : Nat => Sum.inl (p : Int)) (r.map fun p : Nat => Sum.inl (p : Int)) = false) : r.headD 0 ≤ s.headD 0 := by
  cases r with
  | nil => exact absurd rfl hr
  | cons a r =>
    cases s with
    | nil => exact absurd rfl hs
    | cons b s =>
      have q := (PyProof.Rows.lex_false.mp h).1
      have q2 : decide ((b : Int) < a) = false := q
      have := of_decide_eq_false q2
      show a ≤ b
      omega
def rSortedR (K : PySem.W.Frag) : List V → Hp → VK → Prop := fun vs H Q => ∃ (a : Addr) (xs : List V) (rs : List (List Nat)), vs = [V.ref a] ∧ SqL K H a xs ∧ Rws K H xs rs ∧ (∀ r ∈ rs, r ≠ []) ∧
  ∀ (zs : List V) (qs : List (List Nat)) (p : Addr), qs.Perm rs → qs.Pairwise (fun r s => r.headD 0 ≤ s.headD 0) → Rws K H zs qs → H p = none → Q (.ref p) (upd H p (.lst zs))
open Classical in
/-- sorted(l), l a list of tuples of numbers from 0 on, none empty: by the first numbers -/
theorem cr_sortedR (hK : X.K = K) : CallR X (.builtin "sorted") (rSortedR K) := by
  subst hK
  intro pins s σ H vs us Q I r h
  obtain ⟨a, xs, rs, rfl, hq, hR, ne, q⟩ := h
  obtain ⟨its, rv, hl, hz⟩ := I.list hq
  obtain ⟨u, rfl, ru⟩ := vals1 r
  cases ru
  let kk : V → List Nat := fun x => if h : ∃ c : List Nat, ∃ t, x = .ref t ∧ SqT X.K H t (c.map iN) then Classical.choose h else []
  have uni : ∀ t (c : List Nat), SqT X.K H t (c.map iN) → kk (.ref t) = c := fun t c e => by
    have hx : ∃ c : List Nat, ∃ t', V.ref t = .ref t' ∧ SqT X.K H t' (c.map iN) := ⟨c, t, rfl, e⟩
    show (if h : _ then Classical.choose h else []) = c
    rw [dif_pos hx]
    obtain ⟨t', e1, e2⟩ := Classical.choose_spec hx
    cases e1
    exact iN_inj (I.tuple_inj e2 e)
  have ers := hR.map_eq uni
  have all : ∀ x ∈ xs, ∃ t, x = V.ref t ∧ SqT X.K H t ((kk x).map iN) ∧ kk x ≠ [] := fun x hx => by
    obtain ⟨c, m, t, rfl, e⟩ := hR.mem x hx
    rw [uni t c e]
    exact ⟨t, rfl, e, ne c m⟩
  obtain ⟨e1, e2⟩ := refs_back rv fun x m => by
    obtain ⟨t, e, _⟩ := all x m
    exact ⟨t, e⟩
  have key : ∀ v ∈ its, G.tupKeyC s.heap (fun _ => false) v = some ((kk (backV v)).map fun p : Nat => Sum.inl (p : Int)) ∧ ∃ f, PyProof.Rows.TupOf s.heap (fun _ => false) v f := fun v hv => by
    obtain ⟨t, rfl⟩ := e2 v hv
    have hm : V.ref t ∈ xs := by rw [e1]; exact List.mem_map.mpr ⟨_, hv, rfl⟩
    obtain ⟨t', e, ht, hne⟩ := all _ hm
    cases e
    show G.tupKeyC s.heap _ (.ref t) = some ((kk (.ref t)).map _) ∧ _
    generalize kk (.ref t) = c at ht hne ⊢
    obtain ⟨us, r2, ⟨o, ho, hc, n, hd⟩, _⟩ := I.tuple ht
    refine ⟨G.tupKeyC_of ho hc hd (by simpa using items_of 0 r2), ?_⟩
    cases c with
    | nil => exact absurd rfl hne
    | cons p c =>
      cases r2 with
      | cons h1 h2 =>
        obtain ⟨tk, rfl⟩ := h1
        exact ⟨_, t, o, _, n, rfl, ho, hc, hd, rfl, fun _ => ⟨_, _, rfl⟩, fun z => by cases z⟩
  obtain ⟨fs, hfs⟩ := tups_of (sh := fun _ => false) its fun v hv => (key v hv).2
  refine G.sorted_tups hl.isList hfs (fun v hv => ⟨_, (key v hv).1⟩) (by rw [← rv.length]; exact hz) fun st' hp hs _ => ?_
  have pp : (PyProof.Rows.arrOf st').toList.Perm (its.zip its) := by
    have := Array.perm_iff_toList_perm.mp hp
    rwa [pairsOf_toList] at this
  generalize PyProof.Rows.arrOf st' = arr at hs pp ⊢
  have mem : ∀ p ∈ arr.toList, p.1 = p.2 ∧ p.1 ∈ its := fun p hp => mem_zip_self (pp.mem_iff.mp hp)
  have po : (arr.toList.map (·.2)).Perm its := by
    have := pp.map (·.2)
    rwa [List.map_snd_zip (Nat.le_refl _)] at this
  have py : ((arr.toList.map (·.2)).map backV).Perm xs := by rw [e1]; exact po.map backV
  have h3 : ∀ u ∈ arr.toList.map (·.2), ∃ a, u = Value.ref a := fun u hu => e2 u (po.mem_iff.mp hu)
  obtain ⟨n, hn⟩ := PyProof.Rows.sortedAll_at s.heap its (arr.map (·.2))
  have hn' : (sortedAll s.heap its (arr.map (·.2))).get? (s.heap.objs.size + 1) = some (seqObj "list" (arr.toList.map (·.2)).toArray n) := by
    rw [hn]
    congr 2
    apply Array.ext'
    simp
  have pw : arr.toList.Pairwise fun p p' => (kk (backV p.1)).headD 0 ≤ (kk (backV p'.1)).headD 0 := by
    rw [List.pairwise_iff_getElem]
    intro i j hi hj hij
    have hj' : j < (pairsOf its).size := by
      rw [pairsOf_size]
      have := pp.length_eq
      rw [List.length_zip] at this
      omega
    have kl := hs i j (by omega) hj'
    have mi := mem _ (List.getElem_mem hi)
    have mj := mem _ (List.getElem_mem hj)
    have gi : arr[i]? = some (arr.toList[i]) := by rw [← Array.getElem?_toList]; exact List.getElem?_eq_getElem hi
    have gj : arr[j]? = some (arr.toList[j]) := by rw [← Array.getElem?_toList]; exact List.getElem?_eq_getElem hj
    generalize arr.toList[i] = p at mi gi ⊢
    generalize arr.toList[j] = p' at mj gj ⊢
    have ki : PyProof.Rows.KK (G.tupKindC s.heap fun _ => false) arr i = (kk (backV p.1)).map fun p : Nat => Sum.inl (p : Int) := by
      unfold PyProof.Rows.KK
      rw [gi]
      show (G.tupKeyC s.heap (fun _ => false) p.1).getD [] = _
      rw [(key p.1 mi.2).1]
      rfl
    have kj : PyProof.Rows.KK (G.tupKindC s.heap fun _ => false) arr j = (kk (backV p'.1)).map fun p : Nat => Sum.inl (p : Int) := by
      unfold PyProof.Rows.KK
      rw [gj]
      show (G.tupKeyC s.heap (fun _ => false) p'.1).getD [] = _
      rw [(key p'.1 mj.2).1]
      rfl
    rw [ki, kj] at kl
    have nei : ∀ v ∈ its, kk (backV v) ≠ [] := fun v hv => by
      obtain ⟨t, _, _, q⟩ := all (backV v) (by rw [e1]; exact List.mem_map.mpr ⟨v, hv, rfl⟩)
      exact q
    exact head_le (nei _ mi.2) (nei _ mj.2) kl
  refine ⟨.ref _, upd H (s.heap.objs.size + 1) (.lst ((arr.toList.map (·.2)).map backV)), I.laid (t' := s.toks) (fun _ _ => PyProof.Rows.sortedAll_old) (Nat.le_succ _) ⟨?_, _, n, vals_back h3, hn'⟩, rfl, ?_⟩
  · rw [py.length_eq]; exact (by rw [hR.len]; rw [← hR.len, rv.length, ← rv.length]; exact hz)
  refine q _ (((arr.toList.map (·.2)).map backV).map kk) _ ?_ ?_ ?_ (I.hok.fresh (Nat.le_succ _))
  · have := py.map kk
    rwa [ers] at this
  · rw [List.map_map, List.map_map, List.pairwise_map]
    refine (List.Pairwise.and_mem.mp pw).imp fun {p p'} h => ?_
    obtain ⟨m1, m2, h⟩ := h
    rw [(mem p m1).1, (mem p' m2).1] at h
    exact h
  · refine Rws.ofMap kk _ fun x hx => ?_
    obtain ⟨t, e, hq, _⟩ := all x (py.mem_iff.mp hx)
    exact ⟨t, e, hq⟩
end
end Rn

set_option Elab.async false
set_option linter.all false
set_option maxRecDepth 100000
set_option maxHeartbeats 2000000
/-! ways and rings of arrows, plain -/
namespace Rq
open Sx Sr
variable {cs : List (Nat × Nat)}
/-- a chain of cells from p, one behind the other; the last arrow leads to e -/
inductive Ch (cs : List (Nat × Nat)) : Nat → List Nat → Nat → Prop
  | nil (p : Nat) : Ch cs p [] p
  | cons {p q e : Nat} {W : List Nat} : look cs p = some q → Ch cs q W e → Ch cs p (p :: W) e
theorem Ch.snoc : ∀ {W : List Nat} {p e q : Nat}, Ch cs p W e → look cs e = some q → Ch cs p (W ++ [e]) q
  | _, _, _, _, .nil _, h => .cons h (.nil _)
  | _, _, _, _, .cons k c, h => .cons k (c.snoc h)
theorem Ch.app : ∀ {U V : List Nat} {p m e : Nat}, Ch cs p U m → Ch cs m V e → Ch cs p (U ++ V) e
  | _, _, _, _, _, .nil _, h => h
  | _, _, _, _, _, .cons k c, h => .cons k (c.app h)
theorem Ch.cut : ∀ {U V : List Nat} {p e : Nat}, Ch cs p (U ++ V) e → ∃ m, Ch cs p U m ∧ Ch cs m V e
  | [], _, p, _, h => ⟨p, .nil _, h⟩
  | _ :: _, _, _, _, .cons k c => by
    obtain ⟨m, a, b⟩ := c.cut
    exact ⟨m, .cons k a, b⟩
theorem Ch.hd {x p e : Nat} {W : List Nat} (h : Ch cs p (x :: W) e) : x = p := by cases h; rfl
theorem Ch.key : ∀ {W : List Nat} {p e : Nat}, Ch cs p W e → ∀ x ∈ W, (look cs x).isSome = true
  | _, _, _, .cons k c, x, hx => by
    rcases List.mem_cons.mp hx with rfl | hx
    · rw [k]; rfl
    · exact c.key x hx
theorem Ch.pre : ∀ {U W : List Nat} {p e f : Nat}, Ch cs p U e → Ch cs p W f → U.length ≤ W.length → ∃ V, W = U ++ V ∧ Ch cs e V f
  | _, W, _, _, _, .nil _, h, _ => ⟨W, rfl, h⟩
  | _, _, _, _, _, .cons k c, .nil _, l => absurd l (by simp)
  | _, _, _, _, _, .cons k c, .cons k2 c2, l => by
    rw [k] at k2
    cases k2
    obtain ⟨V, e, h⟩ := c.pre c2 (by simpa using l)
    exact ⟨V, by rw [e]; rfl, h⟩
/-- the way from p, as far as its cells are unlike: e is no cell, or one of them -/
structure Way (cs : List (Nat × Nat)) (p : Nat) (W : List Nat) (e : Nat) : Prop where
  ch : Ch cs p W e
  nd : W.Nodup
  fin : (look cs e).isSome = true → e ∈ W
/-- a chain that comes back to its first cell -/
structure Cyc (cs : List (Nat × Nat)) (a : Nat) (W : List Nat) : Prop where
  ch : Ch cs a W a
  nd : W.Nodup
  ne : W ≠ []
theorem Cyc.mem {a : Nat} {W : List Nat} (h : Cyc cs a W) : a ∈ W := by
  obtain ⟨c, _, ne⟩ := h
  cases W with
  | nil => exact absurd rfl ne
  | cons x W => rw [c.hd]; exact List.mem_cons_self ..
theorem Cyc.key {a : Nat} {W : List Nat} (h : Cyc cs a W) : (look cs a).isSome = true := h.ch.key a h.mem
theorem dup {a : Nat} {U V : List Nat} (hu : a ∈ U) (hv : a ∈ V) (nd : (U ++ V).Nodup) : False := (List.nodup_append.mp nd).2.2 a hu a hv rfl
theorem Cyc.uniq {a : Nat} {W W' : List Nat} (h : Cyc cs a W) (h' : Cyc cs a W') : W = W' := by
  have one : ∀ {W W' : List Nat}, Cyc cs a W → Cyc cs a W' → W.length ≤ W'.length → W = W' := fun {W W'} h h' l => by
    obtain ⟨V, e, c⟩ := h.ch.pre h'.ch l
    cases V with
    | nil => rw [e, List.append_nil]
    | cons x V =>
      have := h'.nd
      rw [e] at this
      exact (dup h.mem (by rw [c.hd]; exact List.mem_cons_self ..) this).elim
  rcases Nat.le_total W.length W'.length with l | l
  · exact one h h' l
  · exact (one h' h l).symm
theorem Way.cyc {a e : Nat} {W W' : List Nat} (w : Way cs a W e) (h : Cyc cs a W') : W = W' ∧ e = a := by
  rcases Nat.le_total W.length W'.length with l | l
  · obtain ⟨V, q, c⟩ := w.ch.pre h.ch l
    cases V with
    | nil => cases c; rw [q, List.append_nil]; exact ⟨rfl, rfl⟩
    | cons x V =>
      have nd := h.nd
      rw [q] at nd
      have ex := c.hd
      subst ex
      have := w.fin (c.key x (List.mem_cons_self ..))
      exact (dup this (List.mem_cons_self ..) nd).elim
  · obtain ⟨V, q, c⟩ := h.ch.pre w.ch l
    cases V with
    | nil => cases c; rw [q, List.append_nil]; exact ⟨rfl, rfl⟩
    | cons x V =>
      have nd := w.nd
      rw [q] at nd
      exact (dup h.mem (by rw [c.hd]; exact List.mem_cons_self ..) nd).elim
/-- behind a cell of the way there is a cell of the way -/
theorem Ch.next {p e x y : Nat} {W : List Nat} (h : Ch cs p W e) (hx : x ∈ W) (hy : look cs x = some y) : y ∈ W ∨ y = e := by
  obtain ⟨A, B, rfl⟩ := List.append_of_mem hx
  obtain ⟨m, _, c⟩ := h.cut
  cases c with
  | cons k c2 =>
    rw [k] at hy
    cases hy
    cases c2 with
    | nil => exact .inr rfl
    | cons k2 c3 => exact .inl (List.mem_append_right _ (List.mem_cons_of_mem _ (List.mem_cons_self ..)))
theorem Way.closed {p e x y : Nat} {W : List Nat} (w : Way cs p W e) (hx : x ∈ W) (hy : look cs x = some y) (ky : (look cs y).isSome = true) : y ∈ W := by
  rcases w.ch.next hx hy with h | h
  · exact h
  · rw [h]; exact w.fin (h ▸ ky)
theorem Way.first {p e : Nat} {W : List Nat} (w : Way cs p W e) (k : (look cs p).isSome = true) : p ∈ W := by
  obtain ⟨c, _, f⟩ := w
  cases c with
  | nil => exact f k
  | cons _ _ => exact List.mem_cons_self ..
/-- what is closed under the arrows and has the chain's first cell has the chain -/
theorem Ch.stay {S : List Nat} (cl : ∀ x ∈ S, ∀ y, look cs x = some y → (look cs y).isSome = true → y ∈ S) : ∀ {W : List Nat} {p e : Nat}, Ch cs p W e → ((look cs p).isSome = true → p ∈ S) → ∀ x ∈ W, x ∈ S
  | _, _, _, .cons k c, hp, x, hx => by
    have ps := hp (by rw [k]; rfl)
    rcases List.mem_cons.mp hx with rfl | hx
    · exact ps
    · exact c.stay cl (fun kq => cl _ ps _ k kq) x hx
theorem Ch.stayEnd {S : List Nat} (cl : ∀ x ∈ S, ∀ y, look cs x = some y → (look cs y).isSome = true → y ∈ S) : ∀ {W : List Nat} {p e : Nat}, Ch cs p W e → p ∈ S → (look cs e).isSome = true → e ∈ S
  | _, _, _, .nil _, hp, _ => hp
  | [x], _, _, .cons k c, hp, ke => by cases c; exact cl _ hp _ k ke
  | x :: y :: W, _, _, .cons k c, hp, ke => by
    have kq : (look cs _).isSome = true := c.key y (List.mem_cons_self ..)
    have := c.hd
    exact c.stayEnd cl (cl _ hp _ k (this ▸ kq)) ke
/-- a ring, told from its least cell on -/
structure Ring (cs : List (Nat × Nat)) (m : Nat) (W : List Nat) : Prop where
  cyc : Cyc cs m W
  least : ∀ x ∈ W, m ≤ x
theorem Ring.hd {m : Nat} {W : List Nat} (h : Ring cs m W) : W.headD 0 = m := by
  obtain ⟨⟨c, _, ne⟩, _⟩ := h
  cases W with
  | nil => exact absurd rfl ne
  | cons x W => exact c.hd
/-- a cycle may be told from any of its cells on -/
theorem Cyc.turn {a b : Nat} {A B : List Nat} (h : Cyc cs a (A ++ b :: B)) : Cyc cs b (b :: B ++ A) := by
  obtain ⟨c, nd, _⟩ := h
  obtain ⟨m, c1, c2⟩ := c.cut
  have := c2.hd
  subst this
  refine ⟨c2.app c1, ?_, by simp⟩
  have p : (A ++ b :: B).Perm (b :: B ++ A) := List.perm_append_comm
  exact p.nodup_iff.mp nd
/-- what is known of the rows found when the cells of S have been seen; R: the reached ones -/
structure Seen (cs : List (Nat × Nat)) (R S : List Nat) (rows : List (List Nat)) : Prop where
  cl : ∀ x ∈ S, ∀ y, look cs x = some y → (look cs y).isSome = true → y ∈ S
  sub : ∀ r ∈ R, r ∈ S
  ok : ∀ W ∈ rows, ∃ m, Ring cs m W ∧ m ∉ R ∧ m ∈ S
  all : ∀ m W, Ring cs m W → m ∉ R → m ∈ S → W ∈ rows
  nd : rows.Nodup
theorem Seen.start {R : List Nat} (cl : ∀ x ∈ R, ∀ y, look cs x = some y → (look cs y).isSome = true → y ∈ R) : Seen cs R R [] :=
  ⟨cl, fun _ h => h, fun _ h => (nomatch h), fun _ _ _ n h => absurd h n, List.nodup_nil⟩
/-- a ring through a new cell m of a row that ends at place: place lies on it -/
theorem on_ring {S row : List Nat} {c m place : Nat} {W : List Nat} (cl : ∀ x ∈ S, ∀ y, look cs x = some y → (look cs y).isSome = true → y ∈ S) (ch : Ch cs c row place) (nd : row.Nodup) (dis : ∀ x ∈ row, x ∉ S)
    (ex : (look cs place).isSome = true → place ∈ S ∨ place ∈ row) (hm : m ∈ row) (h : Cyc cs m W) : place ∈ W ∧ place ∈ row := by
  obtain ⟨A, B, rfl⟩ := List.append_of_mem hm
  obtain ⟨m', _, c2⟩ := ch.cut
  have := c2.hd
  subst this
  have pW : place ∈ W := by
    rcases Nat.le_total (m :: B).length W.length with l | l
    · obtain ⟨V, q, c3⟩ := c2.pre h.ch l
      cases V with
      | nil => cases c3; exact h.mem
      | cons x V => rw [q, ← c3.hd]; exact List.mem_append_right _ (List.mem_cons_self ..)
    · obtain ⟨V, q, c3⟩ := h.ch.pre c2 l
      cases V with
      | nil => cases c3; exact h.mem
      | cons x V =>
        have := (List.nodup_append.mp nd).2.1
        rw [q] at this
        exact (dup h.mem (by rw [c3.hd]; exact List.mem_cons_self ..) this).elim
  refine ⟨pW, ?_⟩
  rcases ex (h.ch.key _ pW) with z | z
  · obtain ⟨P, Q, rfl⟩ := List.append_of_mem pW
    obtain ⟨x, _, c4⟩ := h.ch.cut
    have := c4.hd
    subst this
    exact absurd (c4.stayEnd cl z h.key) (dis _ hm)
  · exact z
theorem Seen.grow {R S row : List Nat} {rows : List (List Nat)} {c place : Nat} (h : Seen cs R S rows) (ch : Ch cs c row place) (dis : ∀ x ∈ row, x ∉ S) (ex : (look cs place).isSome = true → place ∈ S ∨ place ∈ row) :
    (∀ x ∈ S ++ row, ∀ y, look cs x = some y → (look cs y).isSome = true → y ∈ S ++ row) ∧ ∀ r ∈ R, r ∈ S ++ row := by
  refine ⟨fun x hx y hy ky => ?_, fun r hr => List.mem_append_left _ (h.sub r hr)⟩
  rcases List.mem_append.mp hx with hx | hx
  · exact List.mem_append_left _ (h.cl x hx y hy ky)
  · rcases ch.next hx hy with z | z
    · exact List.mem_append_right _ z
    · rw [z] at ky ⊢
      exact (ex ky).elim (fun q => List.mem_append_left _ q) fun q => List.mem_append_right _ q
/-- no ring is closed -/
theorem Seen.skip {R S row : List Nat} {rows : List (List Nat)} {c place : Nat} (h : Seen cs R S rows) (ch : Ch cs c row place) (nd : row.Nodup) (dis : ∀ x ∈ row, x ∉ S) (ex : (look cs place).isSome = true → place ∈ S ∨ place ∈ row) (no : place ∉ row) : Seen cs R (S ++ row) rows := by
  obtain ⟨g1, g2⟩ := h.grow ch dis ex
  refine ⟨g1, g2, fun W hW => ?_, fun m W r n hm => ?_, h.nd⟩
  · obtain ⟨m, a, b, c⟩ := h.ok W hW
    exact ⟨m, a, b, List.mem_append_left _ c⟩
  · rcases List.mem_append.mp hm with hm | hm
    · exact h.all m W r n hm
    · exact absurd (on_ring h.cl ch nd dis ex hm r.cyc).2 no
/-- a ring is closed -/
theorem Seen.ring {R S A B T1 T2 : List Nat} {rows : List (List Nat)} {c place m0 : Nat} (h : Seen cs R S rows) (ch : Ch cs c (A ++ place :: B) place) (nd : (A ++ place :: B).Nodup) (dis : ∀ x ∈ A ++ place :: B, x ∉ S)
    (eT : place :: B = T1 ++ m0 :: T2) (least : ∀ x ∈ place :: B, m0 ≤ x) : Ring cs m0 (m0 :: T2 ++ T1) ∧ Seen cs R (S ++ (A ++ place :: B)) (rows ++ [m0 :: T2 ++ T1]) := by
  have ex : (look cs place).isSome = true → place ∈ S ∨ place ∈ A ++ place :: B := fun _ => .inr (List.mem_append_right _ (List.mem_cons_self ..))
  obtain ⟨g1, g2⟩ := h.grow ch dis ex
  have cT : Cyc cs place (place :: B) := by
    obtain ⟨p, _, c2⟩ := ch.cut
    have := c2.hd
    subst this
    exact ⟨c2, (List.nodup_append.mp nd).2.1, by simp⟩
  have rg : Ring cs m0 (m0 :: T2 ++ T1) := by
    refine ⟨Cyc.turn (a := place) (by rw [← eT]; exact cT), fun x hx => least x ?_⟩
    rw [eT]
    rcases List.mem_append.mp hx with hx | hx
    · exact List.mem_append_right _ hx
    · exact List.mem_append_left _ hx
  have m0T : m0 ∈ A ++ place :: B := List.mem_append_right _ (by rw [eT]; exact List.mem_append_right _ (List.mem_cons_self ..))
  refine ⟨rg, g1, g2, fun W hW => ?_, fun m W r n hm => ?_, ?_⟩
  · rcases List.mem_append.mp hW with hW | hW
    · obtain ⟨m, a, b, c⟩ := h.ok W hW
      exact ⟨m, a, b, List.mem_append_left _ c⟩
    · rw [List.mem_singleton.mp hW]
      exact ⟨m0, rg, fun z => dis m0 m0T (h.sub m0 z), List.mem_append_right _ m0T⟩
  · rcases List.mem_append.mp hm with hm | hm
    · exact List.mem_append_left _ (h.all m W r n hm)
    · refine List.mem_append_right _ (List.mem_singleton.mpr ?_)
      obtain ⟨pW, _⟩ := on_ring h.cl ch nd dis ex hm r.cyc
      obtain ⟨P, Q, rfl⟩ := List.append_of_mem pW
      have eq : place :: Q ++ P = place :: B := (Cyc.turn r.cyc).uniq cT
      have mem : ∀ x, x ∈ P ++ place :: Q ↔ x ∈ place :: B := fun x => by
        rw [← eq]
        simp only [List.mem_append, List.mem_cons]
        constructor
        · rintro (z | z | z)
          · exact .inr z
          · exact .inl (.inl z)
          · exact .inl (.inr z)
        · rintro ((z | z) | z)
          · exact .inr (.inl z)
          · exact .inr (.inr z)
          · exact .inl z
      have e1 : m ≤ m0 := r.least m0 ((mem m0).mpr (by rw [eT]; exact List.mem_append_right _ (List.mem_cons_self ..)))
      have e2 : m0 ≤ m := least m ((mem m).mp r.cyc.mem)
      have e3 : m = m0 := Nat.le_antisymm e1 e2
      subst e3
      exact r.cyc.uniq rg.cyc
  · rw [List.nodup_append]
    refine ⟨h.nd, by simp, fun W hW W' hW' e => ?_⟩
    rw [List.mem_singleton.mp hW'] at e
    subst e
    obtain ⟨m, a, _, ms⟩ := h.ok _ hW
    have : m = m0 := by rw [← a.hd]; rfl
    rw [this] at ms
    exact dis m0 m0T ms
/-- both lists of rings are one -/
theorem rings_eq {R : List Nat} {P Q : List (List Nat)} (nP : P.Nodup) (okP : ∀ W ∈ P, ∃ m, Ring cs m W ∧ m ∉ R) (allP : ∀ m W, Ring cs m W → m ∉ R → W ∈ P) (leP : P.Pairwise fun r s => r.headD 0 ≤ s.headD 0)
    (okQ : ∀ W ∈ Q, ∃ m, Ring cs m W ∧ m ∉ R) (allQ : ∀ m W, Ring cs m W → m ∉ R → W ∈ Q) (ltQ : Q.Pairwise fun r s => r.headD 0 < s.headD 0) : P = Q := by
  have nQ : Q.Nodup := ltQ.imp fun {a b} q z => by rw [z] at q; exact Nat.lt_irrefl _ q
  have p : P.Perm Q := (List.perm_ext_iff_of_nodup nP nQ).mpr fun W => ⟨fun h => by
    obtain ⟨m, r, n⟩ := okP W h
    exact allQ m W r n, fun h => by
    obtain ⟨m, r, n⟩ := okQ W h
    exact allP m W r n⟩
  refine List.Perm.eq_of_pairwise (le := fun r s : List Nat => r.headD 0 ≤ s.headD 0) (fun a b ha hb q r => ?_) leP (ltQ.imp fun {a b} q => Nat.le_of_lt q) p
  obtain ⟨m, ra, _⟩ := okP a ha
  obtain ⟨n, rb, _⟩ := okQ b hb
  rw [ra.hd, rb.hd] at q
  rw [ra.hd, rb.hd] at r
  have : m = n := Nat.le_antisymm q r
  subst this
  exact ra.cyc.uniq rb.cyc
/-- so many unlike cells there are at most -/
theorem few {W : List Nat} (nd : W.Nodup) (k : ∀ x ∈ W, (look cs x).isSome = true) : W.length ≤ cs.length := by
  have : W.length ≤ (cs.map (·.1)).length := List.Nodup.length_le_of_subset nd fun x hx => by
    obtain ⟨c, hc, e⟩ := look_some.mp (k x hx)
    exact List.mem_map.mpr ⟨c, hc, e⟩
  rwa [List.length_map] at this
end Rq

set_option Elab.async false
set_option linter.all false
set_option maxRecDepth 100000
set_option maxHeartbeats 4000000
namespace K10
open PySem PySem.Spec PyProof.Rows L2 Rd Dt Dq Pk Ln En Sx Sy So Sr Lk Rq
local macro_rules | `(tactic| walk_at "rd") => `(tactic| try simp only [↓Lk.tLockE_, ↓Lk.tLock_, ↓Lk.tLc_keys, ↓Lk.tFor_keys, ↓Sy.tTupP_, ↓Sy.rTupP_, ↓Sy.rCatP_, ↓Sy.rSlP_, ↓Sy.rDictT_, ↓Sy.tDGet_, ↓Sy.tDGet1_, ↓Sy.tDIn_, ↓Sy.tDNotIn_, ↓Sy.tMeth_, ↓Sy.tMethKw_, ↓Sy.rSortedS_, ↓Sx.rIsT_, ↓En.tFor_enumT, ↓Sy.tFor_enumL, ↓Rv.tMakeKw_, ↓Prp.tProp_, ↓Lo.tBits_, ↓Lo.tJs_n, ↓Lo.tJs_c, ↓Lo.tFmt_, ↓Lo.gFld_, ↓Lo.tMake_, ↓Lo.rOwn_, ↓Rg.tFor_range3, ↓Rg.tLc_range3, ↓Rg.tLstC_, ↓Rg.tLc_rngV, ↓Le.rNeLE_, ↓Le.rEqLE_, ↓Ls.tLc_str, ↓Ls.sDPut_, ↓Rl.rReprL_, ↓Rl.tCallKS_, ↓Ob.tFld_, ↓Ob.sFld_, ↓tVar_, ↓tC_, ↓tM1, ↓tDNewK_, ↓tOp_, ↓tUn_, ↓rI_, ↓rI0_, ↓rU_, ↓eq_ii, ↓ne_ii, ↓eq_ss, ↓ne_ss, ↓eq_bb, ↓ne_bb, ↓tAndV_, ↓tOrV_, ↓tNotV_, ↓tIf_, ↓tTest_, ↓tB_, ↓tAnd_, ↓tOr_, ↓tNot_, ↓tChain_, ↓tNil_, ↓tCons_, ↓tTup_, ↓tLst_, ↓tCB_, ↓tCall_, ↓tSeq_, ↓tNext_, ↓tRet_, ↓tRetN_, ↓tDrop_, ↓tBreak_, ↓tNever_, ↓tIfS_, ↓tAsg_, ↓gName_, ↓gTup_, ↓gCons_, ↓gNil_, ↓gSub_, ↓tPar_, ↓tPar3_, ↓tSl_, ↓tNoPart_, ↓tPart_, ↓tBM_, ↓tFor_range1, ↓tFor_range2, ↓tFor_list, ↓tFor_tup, L2.start, List.headD_cons, List.headD_nil, List.tail_cons, List.map_cons, List.map_nil, List.length_cons, List.length_nil, List.replicate, List.append_nil, List.nil_append, List.cons_append, List.getElem?_cons_zero, List.getElem?_cons_succ, List.set_cons_zero, List.set_cons_succ, Option.some.injEq, V.int.injEq, V.bl.injEq, V.str.injEq, V.ref.injEq, exists_eq_left, exists_eq_left', exists_eq_right, exists_eq, exists_and_left, and_true, true_and, decide_eq_true_eq, Nat.reduceAdd, Nat.reduceSub, Nat.add_zero, Nat.zero_add, List.cons.injEq, Bool.not_eq_true', decide_eq_false_iff_not, eq_self, reduceCtorEq, Bool.false_eq_true, if_true, if_false, ite_true, ite_false, and_self, ↓tLc_range1, ↓tLc_range2, ↓tLc_list, ↓tLc_tup, ↓tYes_, wipe0, wipe1, ↓tCallS_, ↓rIxL_, ↓rIxT_, ↓rSlL_, ↓rCat_, ↓rSetL_, ↓rRep_, ↓rGcd_, ↓tCallK_, ↓gUnl_, ↓tRaise_, decide_true, decide_false, not_true_eq_false, not_false_eq_true, false_and, or_false, false_or, and_false, and_assoc, exists_const, forall_const, forall_eq'])

section
variable {P : Program} {w : World} {K : PySem.W.Frag} {mg : Str → Option Value} {base : Heap}
/-! ### the law's walk along the arrows -/
abbrev iW (p : Nat) : V := .int (p : Int)
theorem inV_W (c : Nat) (fs : List Nat) : inV (.int (c : Int)) (fs.map iW) = decide (c ∈ fs) := by
  unfold inV
  rw [List.any_map, Bool.eq_iff_iff, List.any_eq_true, decide_eq_true_eq]
  constructor
  · rintro ⟨x, hx, e⟩
    have e2 : (x : Int) = c := by simpa [eqV] using e
    rw [← Int.ofNat.inj e2]
    exact hx
  · intro hx
    exact ⟨c, hx, by simp [eqV]⟩
theorem flat_W (V : List Nat) : (V.map iW).all flatV = true := by
  rw [List.all_eq_true]
  intro x hx
  obtain ⟨n, _, rfl⟩ := List.mem_map.mp hx
  rfl
theorem way_le {cs : List (Nat × Nat)} {p e f : Nat} {U V : List Nat} (h : Way cs p U e) (k : Way cs p V f) (l : U.length ≤ V.length) : U = V ∧ e = f := by
  obtain ⟨D, eD, ch⟩ := h.ch.pre k.ch l
  cases D with
  | nil =>
    rw [List.append_nil] at eD
    cases ch
    exact ⟨eD.symm, rfl⟩
  | cons x D =>
    have ex := ch.hd
    subst ex
    have kx := ch.key x (List.mem_cons_self ..)
    have := h.fin kx
    have nd := k.nd
    rw [eD] at nd
    exact (dup this (List.mem_cons_self ..) nd).elim
theorem way_one {cs : List (Nat × Nat)} {p e f : Nat} {U V : List Nat} (h : Way cs p U e) (k : Way cs p V f) : U = V ∧ e = f := by
  by_cases l : U.length ≤ V.length
  · exact way_le h k l
  · obtain ⟨a, b⟩ := way_le k h (by omega)
    exact ⟨a.symm, b.symm⟩
def spGA (K : PySem.W.Frag) : Sp := fun vs H Q _ => ∃ (d : Addr) (cs : List (Nat × Nat)) (p : Nat), vs = [.ref d, .int p] ∧ H d = some (.dK (cs.map ck)) ∧ cs.length ≤ 500 ∧
  ∀ (t a : Addr) (W : List Nat) (e : Nat) (H' : Hp), Same H H' → H t = none → H a = none → H' t = some (.tup [.ref a, .int e]) → H' a = some (.lst (W.map iW)) → Way cs p W e → Q (.ref t) H'
theorem sc_ga : FnScope ["_law_arrows_here", "_law_place", "_law_found", "_law_here", "_law_turn"] ["_law_arrows_here", "_law_place"] (defScope (top 36)) := ⟨rfl, rfl, rfl, by decide +kernel, rfl, by decide +kernel, by decide +kernel⟩
theorem ok_ga {f : Addr} {fd : FuncData} (T : Tx mg) (F : FD K "_law_gone_along" (top 36) f fd) : FnOk P w K mg base CX0 1 f fd ["_law_arrows_here", "_law_place"] (spGA K) := by
  refine F.ok sc_ga (fun vs H Q E h => ?_) (fun cdv A outer s H vs Q E hr h => ?_)
  · obtain ⟨_, _, _, rfl, _⟩ := h
    rfl
  · obtain ⟨d, cs, p, rfl, hd, hl, k⟩ := h
    have nd := sc_ga.nd
    have zl : (1000000 : Nat) ≤ sizeLine := line_big
    refine ⟨_, (pss_cons (ps_par rfl nd (i := 2) (j := 3) rfl rfl (by decide) rfl rfl (pa_cons (pe_lst pa_nil) (pa_cons (pv 1) pa_nil)) rfl)
        (pss_cons (ps_for (passes_of rfl) rfl (pi_range1 rfl T.b_range (pa_cons (pe_op op_add (pe_callB call_lenD (by rfl) T.b_len PySem.boot_len (pa_cons (pv 0) pa_nil)) pe_int) pa_nil)) (pg_name (i := 4) nd rfl (Or.inl rfl)) (pss_cons (ps_if (PW.pt (pw_or (pt_cmp (pc_dnotin (hu_of hr) (pv 3) (pv 0))) (pw_or1 (pt_cmpR (Ls.op_in_seqK (K := K) rfl) (pv 3) (pv 2) rfl)))) (pss_one ps_break) pss_nil)
        (pss_cons (ps_expr (pe_bm PySem.F.plainAttrs_list PySem.F.slot_list_append PySem.F.type_list_append mt_append (pv 2) (pa_cons (pv 3) pa_nil)))
        (pss_one (ps_set (i := 3) nd rfl (Or.inl rfl) (pe_dget (hu_of hr) (pv 0) (pv 3) (fun _ _ => rfl)))))))
        (pss_one (ps_ret (pe_tup (pa_cons (pv 2) (pa_cons (pv 3) pa_nil))))))), ?_⟩
    refine sq fun U hU => ?_
    walk_at "rd"
    refine ⟨Nat.zero_le _, fun D hD => hU _ _ ?_⟩
    clear hU
    have s1 := same_new (o := HO.lst []) hD
    have f1 : upd H D (.lst []) D = some (.lst []) := upd_same
    generalize upd H D (.lst []) = H1 at s1 f1 ⊢
    refine sq fun U hU => ?_
    walk_at "rd"
    have fin : ∀ (V : List Nat) (q : Nat) (v : Option L2.V) (H' : Hp), Same H H' → H' D = some (.lst (V.map iW)) → Way cs p V q → U [some (.ref d), some (.int p), some (.ref D), some (.int q), v] H' := by
      intro V q v H' s' hD' hw
      refine hU _ _ ?_
      walk_at "rd"
      refine ⟨by omega, fun t ht => ?_⟩
      have s3 := same_new (o := HO.tup [.ref D, .int (q : Nat)]) ht
      have ht0 : H t = none := by
        cases e : H t with
        | none => rfl
        | some o => have := s' _ _ e; rw [ht] at this; cases this
      exact k t D V q _ (s'.trans s3) ht0 hD upd_same (s3 _ _ hD') hw
    refine ⟨_, s1 _ _ hd, by rw [List.length_map]; omega, by rw [List.length_map]; omega, ?_⟩
    rw [List.length_map, show (((cs.length : Nat) : Int) + 1).toNat = cs.length + 1 from by omega]
    refine for_r (fun i σ H' => Same H H' ∧ ∃ (V : List Nat) (q : Nat) (v : Option L2.V), V.length = i ∧ H' D = some (.lst (V.map iW)) ∧ Ch cs p V q ∧ V.Nodup ∧ σ = [some (.ref d), some (.int p), some (.ref D), some (.int q), v]) ⟨s1, [], p, none, rfl, f1, .nil _, List.nodup_nil, rfl⟩ ?_ ?_
    · rintro i σ H2 hi ⟨hs2, V, q, v, lv, hD2, ch, nV, rfl⟩
      walk_at "rd"
      refine ⟨_, get_c (hs2 _ _ hd) q, ?_⟩
      cases el : look cs q with
      | none =>
        rw [Option.map_none, if_pos (by rfl)]
        exact fin V q _ H2 hs2 hD2 ⟨ch, nV, fun z => by rw [el] at z; cases z⟩
      | some w' =>
        rw [Option.map_some, if_neg (by simp)]
        refine ⟨D, V.map iW, rfl, .inl (SqL.of hD2), rfl, flat_W V, ?_⟩
        rw [if_neg (by decide), inV_W]
        refine ⟨_, rfl, ?_⟩
        by_cases cm : q ∈ V
        · rw [if_pos (decide_eq_true cm)]
          exact fin V q _ H2 hs2 hD2 ⟨ch, nV, fun _ => cm⟩
        · rw [if_neg (fun z => cm (of_decide_eq_true z))]
          have nV3 : (V ++ [q]).Nodup := by
            rw [List.nodup_append]
            refine ⟨nV, by simp, fun a ha b hb z => ?_⟩
            rw [List.mem_singleton.mp hb] at z
            exact cm (z ▸ ha)
          have hs3 : Same H (upd H2 D (.lst (V.map iW ++ [.int (q : Nat)]))) := fun b o e => by rw [upd_ne (ne_of_none e hD)]; exact hs2 b o e
          have gv := get_c (hs3 _ _ hd) q
          rw [el] at gv
          refine ⟨.inl ⟨rfl, _, SqL.of hD2⟩, D, _, _, rfl, rfl, hD2, by rw [List.length_map]; omega, _, gv, hs3, V ++ [q], by rw [List.length_append, lv]; rfl, by rw [upd_same, List.map_append]; rfl, w', ch.snoc el, nV3, rfl, _, rfl⟩
    · rintro σ H2 ⟨hs2, V, q, v, lv, hD2, ch, nV, rfl⟩
      have := few nV ch.key
      omega
end
end K10

set_option Elab.async false
set_option linter.all false
set_option maxRecDepth 100000
set_option maxHeartbeats 4000000
namespace K10
open PySem PySem.Spec PyProof.Rows L2 Rd Dt Dq Pk Ln En Sx Sy So Sr Lk Rq
local macro_rules | `(tactic| walk_at "rd") => `(tactic| try simp only [↓Lk.tLockE_, ↓Lk.tLock_, ↓Lk.tLc_keys, ↓Lk.tFor_keys, ↓Sy.tTupP_, ↓Sy.rTupP_, ↓Sy.rCatP_, ↓Sy.rSlP_, ↓Sy.rDictT_, ↓Sy.tDGet_, ↓Sy.tDGet1_, ↓Sy.tDIn_, ↓Sy.tDNotIn_, ↓Sy.tMeth_, ↓Sy.tMethKw_, ↓Sy.rSortedS_, ↓Sx.rIsT_, ↓En.tFor_enumT, ↓Sy.tFor_enumL, ↓Rv.tMakeKw_, ↓Prp.tProp_, ↓Lo.tBits_, ↓Lo.tJs_n, ↓Lo.tJs_c, ↓Lo.tFmt_, ↓Lo.gFld_, ↓Lo.tMake_, ↓Lo.rOwn_, ↓Rg.tFor_range3, ↓Rg.tLc_range3, ↓Rg.tLstC_, ↓Rg.tLc_rngV, ↓Le.rNeLE_, ↓Le.rEqLE_, ↓Ls.tLc_str, ↓Ls.sDPut_, ↓Rl.rReprL_, ↓Rl.tCallKS_, ↓Ob.tFld_, ↓Ob.sFld_, ↓tVar_, ↓tC_, ↓tM1, ↓tDNewK_, ↓tOp_, ↓tUn_, ↓rI_, ↓rI0_, ↓rU_, ↓eq_ii, ↓ne_ii, ↓eq_ss, ↓ne_ss, ↓eq_bb, ↓ne_bb, ↓tAndV_, ↓tOrV_, ↓tNotV_, ↓tIf_, ↓tTest_, ↓tB_, ↓tAnd_, ↓tOr_, ↓tNot_, ↓tChain_, ↓tNil_, ↓tCons_, ↓tTup_, ↓tLst_, ↓tCB_, ↓tCall_, ↓tSeq_, ↓tNext_, ↓tRet_, ↓tRetN_, ↓tDrop_, ↓tBreak_, ↓tNever_, ↓tIfS_, ↓tAsg_, ↓gName_, ↓gTup_, ↓gCons_, ↓gNil_, ↓gSub_, ↓tPar_, ↓tPar3_, ↓tSl_, ↓tNoPart_, ↓tPart_, ↓tBM_, ↓tFor_range1, ↓tFor_range2, ↓tFor_list, ↓tFor_tup, L2.start, List.headD_cons, List.headD_nil, List.tail_cons, List.map_cons, List.map_nil, List.length_cons, List.length_nil, List.replicate, List.append_nil, List.nil_append, List.cons_append, List.getElem?_cons_zero, List.getElem?_cons_succ, List.set_cons_zero, List.set_cons_succ, Option.some.injEq, V.int.injEq, V.bl.injEq, V.str.injEq, V.ref.injEq, exists_eq_left, exists_eq_left', exists_eq_right, exists_eq, exists_and_left, and_true, true_and, decide_eq_true_eq, Nat.reduceAdd, Nat.reduceSub, Nat.add_zero, Nat.zero_add, List.cons.injEq, Bool.not_eq_true', decide_eq_false_iff_not, eq_self, reduceCtorEq, Bool.false_eq_true, if_true, if_false, ite_true, ite_false, and_self, ↓tLc_range1, ↓tLc_range2, ↓tLc_list, ↓tLc_tup, ↓tYes_, wipe0, wipe1, ↓tCallS_, ↓rIxL_, ↓rIxT_, ↓rSlL_, ↓rCat_, ↓rSetL_, ↓rRep_, ↓rGcd_, ↓tCallK_, ↓gUnl_, ↓tRaise_, decide_true, decide_false, not_true_eq_false, not_false_eq_true, false_and, or_false, false_or, and_false, and_assoc, exists_const, forall_const, forall_eq'])

section
variable {P : Program} {w : World} {K : PySem.W.Frag} {mg : Str → Option Value} {base : Heap}
/-! ### drawn stores -/
theorem well_o {H : Hp} {u : Addr} (w : WellAt H u) : ∃ o, H u = some o ∧ ∀ xs, o ≠ .tup xs ∧ ∀ ob, o ≠ .frz ob (.tup xs) := by
  obtain ⟨q1, q2, q3, e, _⟩ := w
  exact ⟨_, e, lst_no⟩
theorem WellAt.ne {H : Hp} {u : Addr} (w : WellAt H u) {a : Addr} (h : H a = none) : a ≠ u := fun z => by
  obtain ⟨_, _, _, e, _⟩ := w
  rw [z, e] at h
  cases h
def nmC (K : PySem.W.Frag) (H0 : Hp) (u p D : Addr) (ls gs : List Nat) (pg : Addr) (j : Nat) (H : Hp) : Prop := But u H0 H ∧ WellAt H u ∧ ∃ (xs : List V) (ns : List (Nat × Nat)), H D = some (.lst xs) ∧ Prs K H xs (ns.map nk) ∧ ns.map (fun n => n.1) = ls.take j ∧ ∀ n ∈ ns, n.2 ∈ gs
def spDS (K : PySem.W.Frag) : Sp := fun vs H Q _ => ∃ (u l : Addr) (ls : List Nat) (m : Nat), vs = [.ref u, .ref l, .int m] ∧ WellAt H u ∧ l ≠ u ∧ H l = some (.lst (ls.map sL)) ∧ m ≤ 30 ∧ 1 ≤ ls.length ∧ ls.length ≤ 4 ∧ ls.Pairwise (· < ·) ∧ (∀ c ∈ ls, 97 ≤ c ∧ c ≤ 122) ∧
  ∀ (t a b : Addr) (ns cs : List (Nat × Nat)) (H' : Hp), But u H H' → WellAt H' u → H' t = some (.tup [.ref a, .ref b]) → PrsAt K H' a (ns.map nk) → PrsAt K H' b (cs.map ck) → NmOk ns → ClOk cs → ns.length = ls.length → ns.map (·.1) = ls → cs.length ≤ m → Q (.ref t) H'
theorem sc_ds : FnScope ["_law_jug_here", "_law_letters", "_law_most", "_law_cells", "_law_goals", "_law_letter"] ["_law_jug_here", "_law_letters", "_law_most"] (defScope (top 34)) := ⟨rfl, rfl, rfl, by decide +kernel, rfl, by decide +kernel, by decide +kernel⟩
theorem ok_ds {f : Addr} {fd : FuncData} (T : Tx mg) (F : FD K "_law_drawn_store" (top 34) f fd) {f1 f2 : Addr} {fd1 fd2 : FuncData} (C1 : Cal P w K mg base CX0 3 "_law_drawn_cells" ["_law_jug_here", "_law_most"] (spDraw K) f1 fd1) (C2 : Cal P w K mg base CX0 2 "_law_one_of" ["_law_jug_here", "_law_some"] spPick f2 fd2) : FnOk P w K mg base CX0 4 f fd ["_law_jug_here", "_law_letters", "_law_most"] (spDS K) := by
  obtain ⟨g_law_drawn_cells, k_law_drawn_cells, b_law_drawn_cells, F_law_drawn_cells⟩ := C1
  obtain ⟨g_law_one_of, k_law_one_of, b_law_one_of, F_law_one_of⟩ := C2
  refine F.ok sc_ds (fun vs H Q E h => ?_) (fun cdv A outer s H vs Q E hr h => ?_)
  · obtain ⟨_, _, _, _, rfl, _⟩ := h
    rfl
  · obtain ⟨u, l, ls, m, rfl, hw, lu, hl, hm, l1, l4, la, lr, k⟩ := h
    have nd := sc_ds.nd
    have zl : (1000000 : Nat) ≤ sizeLine := line_big
    refine ⟨_, (pss_cons (ps_asg (pe_call F_law_drawn_cells (hr.mono (by omega)) rfl g_law_drawn_cells k_law_drawn_cells b_law_drawn_cells .nil pass0 (pa_cons (pv 0) (pa_cons (pv 2) pa_nil))) (pg_tup rfl (pgs_cons (pg_name (i := 3) nd rfl (Or.inl rfl) (hf := Or.inr rfl)) (pgs_cons (pg_name (i := 4) nd rfl (Or.inr rfl) (hf := Or.inl rfl)) pgs_nil))))
        (pss_one (ps_ret (pe_tup (pa_cons (pe_callTy (En.call_tupP (K := K) rfl) (by rfl) T.b_tuple (by decide +kernel) (pa_cons (pe_lc (own := [("_law_letter", 5)]) rfl nd (pi_list (pv 1)) (blkOk_by (N := ["_law_jug_here", "_law_letters", "_law_most", "_law_cells", "_law_goals", "_law_letter"]) (sc := defScope (top 34)) (by decide +kernel)) (fun _ _ _ _ _ => (pg_name (i := 5) nd rfl (Or.inl rfl))) (fun _ _ _ _ _ => pts_nil) (fun _ _ _ _ _ => (pe_tup (pa_cons (pv 5) (pa_cons (pe_call F_law_one_of (hr.mono (by omega)) rfl g_law_one_of k_law_one_of b_law_one_of .nil pass0 (pa_cons (pv 0) (pa_cons (pv 4) pa_nil))) pa_nil))))) pa_nil)) (pa_cons (pe_callTy (En.call_tupP (K := K) rfl) (by rfl) T.b_tuple (by decide +kernel) (pa_cons (pv 3) pa_nil)) pa_nil)))))), ?_⟩
    refine sq fun U hU => ?_
    walk_at "rd"
    refine ⟨u, m, rfl, hw, hm, fun t0 pc pg xs cs gs H1 b1 w1 et epc prs okc l30 epg g3 g40 g9 npc npg => ⟨t0, rfl, _, et, rfl, _, _, rfl, _, _, rfl, rfl, hU _ _ ?_⟩⟩
    clear hU
    have hl1 := b1 _ _ lu hl
    have npcu : pc ≠ u := hw.ne npc
    have npgu : pg ≠ u := hw.ne npg
    walk_at "rd"
    refine ⟨⟨_, SqL.of hl1⟩, lc_l (xs := ls.map sL) (nmC K H1 u l · ls gs pg) fun D hD => ⟨⟨But.same (same_new hD), w1.but (same_new hD), [], [], upd_same, .nil, rfl, fun _ z => nomatch z⟩, fun j H5 _ hP => SqL.of (hP.1 _ _ lu hl1), ?_, ?_⟩⟩
    · rintro j y H5 hy ⟨b5, w5, ys, ns, hD5, hP5, ens, hns⟩
      obtain ⟨c, hc, rfl⟩ := map_at hy
      unfold Lturn
      walk_at "rd"
      have nDu := w1.ne hD
      refine ⟨u, .ref pg, _, rfl, w5, fun z => npgu (by injection z), .lst (b5 _ _ npgu epg), by rw [List.length_map]; omega, by rw [List.length_map]; omega, fun y H6 b6 w6 hy => ⟨by omega, fun N hN => ?_⟩⟩
      obtain ⟨g, hg, rfl⟩ := List.mem_map.mp hy
      obtain ⟨o5, e5, no5⟩ := well_o w5
      have s7 : Same H6 (upd H6 N (.tup [sL c, iL g])) := same_new hN
      have hN7 : upd H6 N (.tup [sL c, iL g]) N = some (.tup [sL c, iL g]) := upd_same
      have w7 := w6.but s7
      generalize upd H6 N (.tup [sL c, iL g]) = H7 at s7 hN7 w7 ⊢
      have hD7 := s7 _ _ (b6 _ _ nDu hD5)
      have hP7 : Prs K H7 ys (ns.map nk) := (hP5.but b6 e5 no5).up s7
      have new1 : Prs K H7 [.ref N] [nk (c, g)] := .cons (SqT.of hN7) .nil
      have hP8 : Prs K H7 (ys ++ [.ref N]) ((ns ++ [(c, g)]).map nk) := by
        rw [List.map_append]
        exact hP7.append new1
      have lx := hP7.len
      rw [List.length_map] at lx
      have ln : ns.length ≤ 4 := by
        have := congrArg List.length ens
        rw [List.length_map, List.length_take] at this
        omega
      have b8 : But D H7 (upd H7 D (.lst (ys ++ [.ref N]))) := But.put
      refine ⟨_, hD7, by omega, fun a o n e => ?_, ?_, _, ns ++ [(c, g)], upd_same, hP8.but b8 hD7 lst_no, ?_, fun x hx => ?_⟩
      · rw [upd_ne (ne_of_none e hD)]
        exact s7 _ _ (b6 _ _ n (b5 _ _ n e))
      · obtain ⟨q1, q2, q3, e, q4⟩ := w7
        exact ⟨q1, q2, q3, by rw [upd_ne (Ne.symm nDu)]; exact e, q4⟩
      · rw [List.map_append, ens, List.take_succ, hc]; rfl
      · rcases List.mem_append.mp hx with hx | hx
        · exact hns x hx
        · rw [List.mem_singleton.mp hx]; exact hg
    rintro H5 ⟨b5, w5, ys, ns, hD5, hP5, ens, hns⟩
    have nDu := w1.ne hD
    obtain ⟨o4, e4, no4⟩ := well_o w1
    rw [List.length_map, List.take_length] at ens
    have len : ns.length = ls.length := by
      have := congrArg List.length ens
      rwa [List.length_map] at this
    have okn : NmOk ns := by
      refine ⟨by omega, by omega, fun n hn => ?_, ?_⟩
      · have : n.1 ∈ ls := by rw [← ens]; exact List.mem_map_of_mem hn
        have := lr _ this
        exact ⟨this.1, this.2, g9 _ (hns n hn)⟩
      · unfold Asc
        have : (ns.map fun n => n.1).Pairwise (· < ·) := by rw [ens]; exact la
        exact List.pairwise_map.mp this
    refine ⟨D, rfl, _, SqL.of hD5, fun an oN h1 poN => ⟨xs, SqL.of (same_new h1 _ _ (b5 _ _ npcu epc)), fun ac oC h2 poC => ⟨by omega, fun t1 ht1 => ?_⟩⟩⟩
    have s6 : Same H5 (upd (upd H5 an (.frz oN (.tup ys))) ac (.frz oC (.tup xs))) := fun c o e => same_new h2 _ _ (same_new h1 _ _ e)
    have hn : PrsAt K (upd (upd H5 an (.frz oN (.tup ys))) ac (.frz oC (.tup xs))) an (ns.map nk) := ⟨ys, PlT.up (same_new h2) (.new poN), hP5.up s6⟩
    have hc : PrsAt K (upd (upd H5 an (.frz oN (.tup ys))) ac (.frz oC (.tup xs))) ac (cs.map ck) := ⟨xs, .new poC, (prs.but b5 e4 no4).up s6⟩
    have s7 := same_new (o := HO.tup [.ref an, .ref ac]) ht1
    have b06 : But u H (upd (upd H5 an (.frz oN (.tup ys))) ac (.frz oC (.tup xs))) := fun c o n e => s6 _ _ (b5 _ _ n (b1 _ _ n e))
    exact k t1 an ac ns cs _ (b06.trans (But.same s7)) ((w5.but s6).but s7) upd_same (hn.up s7) (hc.up s7) okn okc len ens l30
end
end K10

set_option Elab.async false
set_option linter.all false
set_option maxRecDepth 100000
set_option maxHeartbeats 4000000
/-! deeds on stores, in plain words -/
namespace Dd
open PySem PySem.Spec PyProof.Rows L2 Rd Dt Pk Ln En Sx Sy So
abbrev NN := List (Nat × Nat)
def hd (s : Str) : Nat := s.cps.toList.headD 0
/-- the place of a letter, or END -/
def pl (ns : NN) (s : Str) : Nat := if s = "END" then 0 else (look ns (hd s)).getD 0
def pu (ds : NN) (k v : Nat) : NN := if ds.any (fun d => decide (d.1 = k)) then ds.map (fun d => if d.1 = k then (d.1, v) else d) else ds ++ [(k, v)]
def dl (ds : NN) (k : Nat) : NN := ds.filter fun d => decide (d.1 ≠ k)
def ad (ps : List Nat) (k : Nat) : List Nat := if k ∈ ps then ps else ps ++ [k]
def tK (p : Nat) : Key × V := (.inl (p : Int), .bl true)
/-- the least number from 1 on that is not among some -/
def fr (S : List Nat) : Nat := ((List.range' 1 (S.length + 1)).find? fun n => decide (n ∉ S)).getD 0
inductive Deed
  | copy (a b : Str) | next (a b : Str) | tie (a b : Str) | new (a : Str) | drop (a : Str)
def Deed.data : Deed → PyData
  | .copy a b => .tuple [.str "copy", .str a, .str b]
  | .next a b => .tuple [.str "next", .str a, .str b]
  | .tie a b => .tuple [.str "tie", .str a, .str b]
  | .new a => .tuple [.str "new", .str a]
  | .drop a => .tuple [.str "drop", .str a]
def Deed.row : Deed → List Str
  | .copy a b => ["copy", a, b]
  | .next a b => ["next", a, b]
  | .tie a b => ["tie", a, b]
  | .new a => ["new", a]
  | .drop a => ["drop", a]
def Deed.words (d : Deed) : List Str := d.row.drop 1
theorem Deed.data_row (d : Deed) : d.data = .tuple (d.row.map .str) := by cases d <;> rfl
/-- a deed done: the place told, names and cells; us: the places that have been cells -/
def act (d : Deed) (ns cs : NN) (us : List Nat) : Option (Nat × NN × NN) := match d with
  | .copy a b => some (0, pu ns (hd a) (pl ns b), cs)
  | .new a => some (fr (ns.map (·.2) ++ cs.map (·.2) ++ us), pu ns (hd a) (fr (ns.map (·.2) ++ cs.map (·.2) ++ us)), pu cs (fr (ns.map (·.2) ++ cs.map (·.2) ++ us)) 0)
  | .next a b => (look cs (pl ns b)).map fun v => (pl ns b, pu ns (hd a) v, cs)
  | .tie a b => (look cs (pl ns a)).map fun _ => (pl ns a, ns, pu cs (pl ns a) (pl ns b))
  | .drop a => (look cs (pl ns a)).map fun _ => (pl ns a, ns, dl cs (pl ns a))
/-! ### dicts -/
theorem pu_gen {f : Nat × Nat → Key × V} {g : Nat → Key} (hf : ∀ d, f d = (g d.1, .int d.2)) (hg : ∀ a b, g a = g b → a = b) (ds : NN) (k v : Nat) : putK (ds.map f) (g k) (.int v) = (pu ds k v).map f := by
  unfold putK pu
  have e1 : (ds.map f).any (fun p => decide (p.1 = g k)) = ds.any (fun d => decide (d.1 = k)) := by
    rw [List.any_map]
    congr 1
    funext d
    show decide ((f d).1 = g k) = _
    rw [decide_eq_decide, hf]
    exact ⟨fun z => hg _ _ z, fun z => by rw [← z]⟩
  rw [e1]
  split
  · rw [List.map_map, List.map_map]
    refine List.map_congr_left fun d _ => ?_
    show (if (f d).1 = g k then _ else _) = f (if d.1 = k then (d.1, v) else d)
    by_cases c : d.1 = k
    · rw [if_pos c, if_pos (by rw [hf, ← c]), hf, hf]
    · rw [if_neg c, if_neg (fun z => c (by rw [hf] at z; exact hg _ _ z))]
  · rw [List.map_append]
    show _ = _ ++ [f (k, v)]
    rw [hf]
theorem pu_ck (ds : NN) (k v : Nat) : putK (ds.map ck) (.inl (k : Int)) (.int v) = (pu ds k v).map ck :=
  pu_gen (g := fun n => .inl (n : Int)) (fun _ => rfl) (fun a b z => by injection z with z; omega) ds k v
theorem pu_nk (ds : NN) (k v : Nat) : putK (ds.map nk) (.inr (L1 k)) (.int v) = (pu ds k v).map nk :=
  pu_gen (g := fun n => .inr (L1 n)) (fun _ => rfl) (fun a b z => by injection z with z; exact L1_inj z) ds k v
theorem dl_ck (ds : NN) (k : Nat) : dropK (ds.map ck) (.inl (k : Int)) = (dl ds k).map ck := by
  unfold dropK dl
  rw [List.filter_map]
  congr 1
  refine List.filter_congr fun d _ => ?_
  show decide ((Sum.inl (d.1 : Int) : Key) ≠ .inl (k : Int)) = _
  rw [decide_eq_decide]
  exact ⟨fun z e => z (by rw [e]), fun z e => z (by injection e with e; omega)⟩
theorem ad_tK (ps : List Nat) (k : Nat) : putK (ps.map tK) (.inl (k : Int)) (.bl true) = (ad ps k).map tK := by
  unfold putK ad
  have e1 : (ps.map tK).any (fun p => decide (p.1 = (.inl (k : Int) : Key))) = decide (k ∈ ps) := by
    rw [List.any_map, Bool.eq_iff_iff, List.any_eq_true, decide_eq_true_eq]
    constructor
    · rintro ⟨x, hx, z⟩
      have z : (Sum.inl (x : Int) : Key) = .inl (k : Int) := of_decide_eq_true z
      injection z with z
      have : x = k := by omega
      rwa [← this]
    · exact fun h => ⟨k, h, decide_eq_true rfl⟩
  rw [e1]
  by_cases h : k ∈ ps
  · rw [if_pos h, if_pos (decide_eq_true h), List.map_map]
    refine List.map_congr_left fun d _ => ?_
    show (if (Sum.inl (d : Int) : Key) = .inl (k : Int) then _ else _) = tK d
    split <;> rfl
  · rw [if_neg h, if_neg (by simp [h]), List.map_append]; rfl
theorem pu_keys (ds : NN) (k v : Nat) : (pu ds k v).map (·.1) = if k ∈ ds.map (·.1) then ds.map (·.1) else ds.map (·.1) ++ [k] := by
  unfold pu
  have e : ds.any (fun d => decide (d.1 = k)) = decide (k ∈ ds.map (·.1)) := by
    rw [Bool.eq_iff_iff, List.any_eq_true, decide_eq_true_eq, List.mem_map]
    exact ⟨fun ⟨x, h, z⟩ => ⟨x, h, of_decide_eq_true z⟩, fun ⟨x, h, z⟩ => ⟨x, h, decide_eq_true z⟩⟩
  rw [e]
  by_cases h : k ∈ ds.map (·.1)
  · rw [if_pos h, if_pos (decide_eq_true h), List.map_map]
    refine List.map_congr_left fun d _ => ?_
    show (if d.1 = k then (d.1, v) else d).1 = d.1
    split <;> rfl
  · rw [if_neg h, if_neg (by simpa using h), List.map_append]; rfl
theorem pu_len (ds : NN) (k v : Nat) : (pu ds k v).length ≤ ds.length + 1 := by
  unfold pu
  split
  · rw [List.length_map]; omega
  · rw [List.length_append]; exact Nat.le_refl _
theorem pu_len_in {ds : NN} {k v : Nat} (h : k ∈ ds.map (·.1)) : (pu ds k v).length = ds.length := by
  have := congrArg List.length (pu_keys ds k v)
  rw [if_pos h, List.length_map, List.length_map] at this
  exact this
theorem pu_nd {ds : NN} {k v : Nat} (h : (ds.map (·.1)).Nodup) : ((pu ds k v).map (·.1)).Nodup := by
  rw [pu_keys]
  split
  · exact h
  · rename_i hk
    refine List.nodup_append.mpr ⟨h, List.pairwise_singleton _ _, fun a ha b hb => ?_⟩
    rw [List.mem_singleton.mp hb]
    rintro rfl
    exact hk ha
theorem pu_mem {ds : NN} {k v : Nat} {x : Nat × Nat} (h : x ∈ pu ds k v) : x ∈ ds ∨ x = (k, v) := by
  unfold pu at h
  split at h
  · obtain ⟨d, hd, e⟩ := List.mem_map.mp h
    split at e
    · rename_i c
      exact .inr (by rw [← e, c])
    · exact .inl (by rw [← e]; exact hd)
  · rcases List.mem_append.mp h with h | h
    · exact .inl h
    · exact .inr (List.mem_singleton.mp h)
theorem dl_mem {ds : NN} {k : Nat} {x : Nat × Nat} (h : x ∈ dl ds k) : x ∈ ds := (List.mem_filter.mp h).1
theorem dl_nd {ds : NN} {k : Nat} (h : (ds.map (·.1)).Nodup) : ((dl ds k).map (·.1)).Nodup := h.sublist (List.filter_sublist.map _)
theorem look_mem {ds : NN} (h : (ds.map (·.1)).Nodup) {k v : Nat} : look ds k = some v ↔ (k, v) ∈ ds := by
  unfold look
  induction ds with
  | nil => simp
  | cons x r ih =>
    rw [List.map_cons, List.nodup_cons] at h
    rw [List.find?_cons]
    by_cases c : x.1 = k
    · rw [decide_eq_true c]
      show some x.2 = some v ↔ _
      rw [List.mem_cons]
      constructor
      · intro z
        injection z with z
        exact .inl (by rw [← c, ← z])
      · rintro (z | z)
        · rw [← z]
        · exact absurd (List.mem_map.mpr ⟨_, z, rfl⟩) (by rw [← c] at *; exact h.1)
    · rw [decide_eq_false c]
      show Option.map _ (r.find? _) = _ ↔ _
      rw [ih h.2, List.mem_cons]
      exact ⟨.inr, fun z => z.resolve_left fun e => c (by rw [← e])⟩
theorem look_none {ds : NN} {k : Nat} : look ds k = none ↔ k ∉ ds.map (·.1) := by
  unfold look
  rw [Option.map_eq_none_iff, List.find?_eq_none, List.mem_map]
  exact ⟨fun h ⟨x, hx, e⟩ => h x hx (decide_eq_true e), fun h x hx e => h ⟨x, hx, of_decide_eq_true e⟩⟩
theorem look_perm {cs ds : NN} (p : cs.Perm ds) (h : (cs.map (·.1)).Nodup) (k : Nat) : look cs k = look ds k := by
  have h2 : (ds.map (·.1)).Nodup := (p.map _).nodup_iff.mp h
  refine Option.ext fun v => ?_
  rw [look_mem h, look_mem h2, p.mem_iff]
theorem pu_perm {cs ds : NN} (p : cs.Perm ds) (k v : Nat) : (pu cs k v).Perm (pu ds k v) := by
  unfold pu
  have e : cs.any (fun d => decide (d.1 = k)) = ds.any (fun d => decide (d.1 = k)) := by
    rw [Bool.eq_iff_iff, List.any_eq_true, List.any_eq_true]
    exact ⟨fun ⟨x, h, z⟩ => ⟨x, p.mem_iff.mp h, z⟩, fun ⟨x, h, z⟩ => ⟨x, p.mem_iff.mpr h, z⟩⟩
  rw [e]
  split
  · exact p.map _
  · exact p.append_right _
theorem dl_perm {cs ds : NN} (p : cs.Perm ds) (k : Nat) : (dl cs k).Perm (dl ds k) := p.filter _
/-! ### the least free number -/
def IsFr (S : Nat → Prop) (n : Nat) : Prop := 1 ≤ n ∧ ¬ S n ∧ ∀ m, 1 ≤ m → m < n → S m
theorem IsFr.one {S T : Nat → Prop} {m n : Nat} (a : IsFr S m) (b : IsFr T n) (h : ∀ x, S x ↔ T x) : m = n := by
  rcases Nat.lt_trichotomy m n with c | c | c
  · exact absurd ((h m).mpr (b.2.2 m a.1 c)) a.2.1
  · exact c
  · exact absurd ((h n).mp (a.2.2 n b.1 c)) b.2.1
theorem nodup_sub_len {l S : List Nat} (h : l.Nodup) (hs : ∀ x ∈ l, x ∈ S) : l.length ≤ S.length := by
  induction l generalizing S with
  | nil => exact Nat.zero_le _
  | cons a r ih =>
    rw [List.nodup_cons] at h
    have ha := hs a (List.mem_cons_self ..)
    have := ih (S := S.erase a) h.2 fun x hx => (List.mem_erase_of_ne (fun z => h.1 (by rw [← z]; exact hx))).mpr (hs x (List.mem_cons_of_mem _ hx))
    rw [List.length_erase_of_mem ha] at this
    have : 0 < S.length := List.length_pos_of_mem ha
    show r.length + 1 ≤ _
    omega
/-- where all numbers below are among some, there are not more of them -/
theorem fill_len {S : List Nat} {n : Nat} (h : ∀ m, 1 ≤ m → m < n → m ∈ S) : n ≤ S.length + 1 := by
  have := nodup_sub_len (l := List.range' 1 (n - 1)) (S := S) List.nodup_range' fun x hx => by
    rw [List.mem_range'_1] at hx
    exact h x hx.1 (by omega)
  rw [List.length_range'] at this
  omega
theorem find_least {p : Nat → Bool} : ∀ (k s : Nat) {n : Nat}, (List.range' s k).find? p = some n → s ≤ n ∧ n < s + k ∧ p n = true ∧ ∀ m, s ≤ m → m < n → p m = false
  | 0, s, n, h => by simp at h
  | k + 1, s, n, h => by
    rw [List.range'_succ, List.find?_cons] at h
    cases e : p s with
    | true =>
      rw [e] at h
      cases h
      exact ⟨Nat.le_refl _, by omega, e, fun m h1 h2 => by omega⟩
    | false =>
      rw [e] at h
      obtain ⟨h1, h2, h3, h4⟩ := find_least k (s + 1) h
      refine ⟨by omega, by omega, h3, fun m a b => ?_⟩
      by_cases c : m = s
      · rw [c]; exact e
      · exact h4 m (by omega) b
theorem fr_is (S : List Nat) : IsFr (· ∈ S) (fr S) ∧ fr S ≤ S.length + 1 := by
  unfold fr
  cases h : (List.range' 1 (S.length + 1)).find? fun n => decide (n ∉ S) with
  | none =>
    rw [List.find?_eq_none] at h
    have := fill_len (S := S) (n := S.length + 2) fun m h1 h2 => by
      have := h m (by rw [List.mem_range'_1]; omega)
      simpa using this
    omega
  | some n =>
    obtain ⟨h1, h2, h3, h4⟩ := find_least _ _ h
    refine ⟨⟨h1, of_decide_eq_true h3, fun m a b => ?_⟩, by show n ≤ _; omega⟩
    have := h4 m a b
    simpa using this
theorem fr_eq {S : List Nat} {n : Nat} (h : IsFr (· ∈ S) n) : fr S = n := (fr_is S).1.one h fun _ => Iff.rfl
theorem fr_congr {S T : List Nat} (h : ∀ x, x ∈ S ↔ x ∈ T) : fr S = fr T := (fr_is S).1.one (fr_is T).1 h
/-- the first of those in a range that are not among some keys -/
theorem fr_head {S T : List Nat} (h : ∀ x, x ∈ S ↔ x ∈ T) (k : Nat) (hk : T.length ≤ k) : ∃ r, (List.range' 1 (k + 1)).filter (fun n => decide (n ∉ T)) = fr S :: r := by
  cases e : (List.range' 1 (k + 1)).filter fun n => decide (n ∉ T) with
  | nil =>
    exfalso
    rw [List.filter_eq_nil_iff] at e
    have := fill_len (S := T) (n := k + 2) fun m h1 h2 => by
      have := e m (by rw [List.mem_range'_1]; omega)
      simpa using this
    omega
  | cons a r =>
    refine ⟨r, ?_⟩
    have ef : (List.range' 1 (k + 1)).find? (fun n => decide (n ∉ T)) = some a := by
      rw [← List.head?_filter, e]
      rfl
    obtain ⟨h1, h2, h3, h4⟩ := find_least _ _ ef
    have : IsFr (· ∈ T) a := ⟨h1, of_decide_eq_true h3, fun m x y => by simpa using h4 m x y⟩
    rw [(fr_is S).1.one this h]
/-- numbers put one by one as keys -/
def tkOf (l : List Nat) : List Nat := l.foldl ad []
theorem tkOf_snoc (l : List Nat) (x : Nat) : tkOf (l ++ [x]) = ad (tkOf l) x := by unfold tkOf; rw [List.foldl_append]; rfl
theorem ad_mem {l : List Nat} {k x : Nat} : x ∈ ad l k ↔ x ∈ l ∨ x = k := by
  unfold ad
  split
  · exact ⟨.inl, fun h => h.elim id fun e => by rw [e]; assumption⟩
  · rw [List.mem_append, List.mem_singleton]
theorem ad_nd {l : List Nat} {k : Nat} (h : l.Nodup) : (ad l k).Nodup := by
  unfold ad
  split
  · exact h
  · rename_i hk
    refine List.nodup_append.mpr ⟨h, List.pairwise_singleton _ _, fun a ha b hb => ?_⟩
    rw [List.mem_singleton.mp hb]
    rintro rfl
    exact hk ha
theorem ad_len (l : List Nat) (k : Nat) : (ad l k).length ≤ l.length + 1 := by
  unfold ad
  split
  · omega
  · rw [List.length_append]; exact Nat.le_refl _
theorem fold_ad : ∀ (l acc : List Nat), (acc.Nodup → (l.foldl ad acc).Nodup) ∧ (l.foldl ad acc).length ≤ acc.length + l.length ∧ ∀ x, x ∈ l.foldl ad acc ↔ x ∈ acc ∨ x ∈ l
  | [], acc => ⟨id, Nat.le_refl _, fun x => by simp⟩
  | a :: l, acc => by
    obtain ⟨h1, h2, h3⟩ := fold_ad l (ad acc a)
    have := ad_len acc a
    refine ⟨fun n => h1 (ad_nd n), by show (l.foldl ad (ad acc a)).length ≤ acc.length + (l.length + 1); omega, fun x => ?_⟩
    show x ∈ l.foldl ad (ad acc a) ↔ _
    rw [h3, ad_mem, List.mem_cons]
    exact or_assoc
theorem tkOf_mem {l : List Nat} {x : Nat} : x ∈ tkOf l ↔ x ∈ l := by
  have := (fold_ad l []).2.2 x
  simpa [tkOf] using this
theorem tkOf_nd (l : List Nat) : (tkOf l).Nodup := (fold_ad l []).1 .nil
theorem tkOf_len (l : List Nat) : (tkOf l).length ≤ l.length := by
  have := (fold_ad l []).2.1
  simpa [tkOf] using this
theorem val_tK (ps : List Nat) (k : Nat) : valV (ps.map tK) (.inl (k : Int) : Key) = if k ∈ ps then some (.bl true) else none := by
  unfold valV
  rw [List.find?_map, Option.map_map]
  have : ((fun kv : Key × V => decide (kv.1 = .inl (k : Int))) ∘ tK) = fun n => decide (n = k) := by
    funext n
    show decide ((Sum.inl (n : Int) : Key) = .inl (k : Int)) = _
    rw [decide_eq_decide]
    exact ⟨fun z => by injection z with z; omega, fun z => by rw [z]⟩
  rw [this]
  by_cases h : k ∈ ps
  · rw [if_pos h]
    cases e : ps.find? fun n => decide (n = k) with
    | none =>
      rw [List.find?_eq_none] at e
      exact absurd (decide_eq_true rfl) (e k h)
    | some v => rfl
  · rw [if_neg h]
    cases e : ps.find? fun n => decide (n = k) with
    | none => rfl
    | some v => exact absurd (by rw [← of_decide_eq_true (p := v = k) (by have := List.find?_some e; exact this)]; exact List.mem_of_find?_eq_some e) h
/-! ### deeds on rows of cells in another order -/
theorem act_perm {d : Deed} {ns cs ds : NN} {us ws : List Nat} (p : cs.Perm ds) (nd : (cs.map (·.1)).Nodup) (hu : ∀ x, x ∈ us ↔ x ∈ ws) :
    (act d ns cs us = none ∧ act d ns ds ws = none) ∨ ∃ q ns1 c1 c2, act d ns cs us = some (q, ns1, c1) ∧ act d ns ds ws = some (q, ns1, c2) ∧ c1.Perm c2 := by
  have lk := look_perm p nd
  cases d with
  | copy a b => exact .inr ⟨_, _, _, _, rfl, rfl, p⟩
  | new a =>
    have e : fr (ns.map (·.2) ++ cs.map (·.2) ++ us) = fr (ns.map (·.2) ++ ds.map (·.2) ++ ws) := fr_congr fun x => by
      rw [List.mem_append, List.mem_append, List.mem_append, List.mem_append, hu, (p.map (·.2)).mem_iff]
    refine .inr ⟨_, _, _, _, rfl, ?_, pu_perm p _ _⟩
    show some (fr (ns.map (·.2) ++ ds.map (·.2) ++ ws), _, _) = _
    rw [← e]
    all_goals rfl
  | next a b =>
    have e1 : act (.next a b) ns cs us = ((look cs (pl ns b)).map fun v => (pl ns b, pu ns (hd a) v, cs)) := rfl
    have e2 : act (.next a b) ns ds ws = ((look ds (pl ns b)).map fun v => (pl ns b, pu ns (hd a) v, ds)) := rfl
    rw [e1, e2, lk]
    cases look ds (pl ns b) with
    | none => exact .inl ⟨rfl, rfl⟩
    | some v => exact .inr ⟨_, _, _, _, rfl, rfl, p⟩
  | tie a b =>
    have e1 : act (.tie a b) ns cs us = ((look cs (pl ns a)).map fun _ => (pl ns a, ns, pu cs (pl ns a) (pl ns b))) := rfl
    have e2 : act (.tie a b) ns ds ws = ((look ds (pl ns a)).map fun _ => (pl ns a, ns, pu ds (pl ns a) (pl ns b))) := rfl
    rw [e1, e2, lk]
    cases look ds (pl ns a) with
    | none => exact .inl ⟨rfl, rfl⟩
    | some v => exact .inr ⟨_, _, _, _, rfl, rfl, pu_perm p _ _⟩
  | drop a =>
    have e1 : act (.drop a) ns cs us = ((look cs (pl ns a)).map fun _ => (pl ns a, ns, dl cs (pl ns a))) := rfl
    have e2 : act (.drop a) ns ds ws = ((look ds (pl ns a)).map fun _ => (pl ns a, ns, dl ds (pl ns a))) := rfl
    rw [e1, e2, lk]
    cases look ds (pl ns a) with
    | none => exact .inl ⟨rfl, rfl⟩
    | some v => exact .inr ⟨_, _, _, _, rfl, rfl, dl_perm p _⟩
/-! ### bounds -/
def CB (m : Nat) (ds : NN) : Prop := ds.length ≤ m ∧ (∀ c ∈ ds, 1 ≤ c.1 ∧ c.1 ≤ 999 ∧ c.2 ≤ 999) ∧ (ds.map (·.1)).Nodup
def Deed.Known (ns : NN) (d : Deed) : Prop := match d with
  | .copy a b | .tie a b | .next a b => (look ns (hd a)).isSome = true ∧ (b = "END" ∨ (look ns (hd b)).isSome = true)
  | .new a | .drop a => (look ns (hd a)).isSome = true
theorem nm_pu {ns : NN} {k v : Nat} (h : NmOk ns) (hk : (look ns k).isSome = true) (hv : v ≤ 999) : NmOk (pu ns k v) := by
  have hk' : k ∈ ns.map (·.1) := by
    by_cases c : k ∈ ns.map (·.1)
    · exact c
    · rw [look_none.mpr c] at hk
      cases hk
  obtain ⟨h1, h2, h3, h4⟩ := h
  have len := pu_len_in (v := v) hk'
  refine ⟨by omega, by omega, fun n hn => ?_, ?_⟩
  · rcases pu_mem hn with hn | rfl
    · exact h3 n hn
    · obtain ⟨x, hx, e⟩ := List.mem_map.mp hk'
      have := h3 x hx
      rw [e] at this
      exact ⟨this.1, this.2.1, hv⟩
  · have := pu_keys ns k v
    rw [if_pos hk'] at this
    have h5 : (ns.map (·.1)).Pairwise (· < ·) := List.pairwise_map.mpr h4
    rw [← this] at h5
    exact List.pairwise_map.mp h5
theorem pl_le {ns : NN} (h : NmOk ns) (s : Str) : pl ns s ≤ 999 := by
  unfold pl
  split
  · omega
  · cases e : look ns (hd s) with
    | none => exact Nat.zero_le _
    | some v =>
      unfold look at e
      obtain ⟨x, hx, rfl⟩ := Option.map_eq_some_iff.mp e
      exact (h.2.2.1 x (List.mem_of_find?_eq_some hx)).2.2
theorem act_ok {d : Deed} {ns cs : NN} {us : List Nat} {m q : Nat} {n1 c1 : NN} (hn : NmOk ns) (hc : CB m cs) (kd : d.Known ns) (hf : ns.length + cs.length + us.length ≤ 990) (h : act d ns cs us = some (q, n1, c1)) : NmOk n1 ∧ CB (m + 1) c1 ∧ q ≤ 999 := by
  have len2 : (ns.map (·.2) ++ cs.map (·.2) ++ us).length = ns.length + cs.length + us.length := by simp only [List.length_append, List.length_map]
  have fle := (fr_is (ns.map (·.2) ++ cs.map (·.2) ++ us)).2
  have fone := (fr_is (ns.map (·.2) ++ cs.map (·.2) ++ us)).1.1
  rw [len2] at fle
  have up : CB (m + 1) cs := ⟨Nat.le_succ_of_le hc.1, hc.2⟩
  have lk : ∀ k v, look cs k = some v → 1 ≤ k ∧ k ≤ 999 ∧ v ≤ 999 := fun k v e => hc.2.1 (k, v) ((look_mem hc.2.2).mp e)
  have put : ∀ k v, 1 ≤ k → k ≤ 999 → v ≤ 999 → CB (m + 1) (pu cs k v) := fun k v a b c => ⟨Nat.le_trans (pu_len _ _ _) (by have := hc.1; omega), fun x hx => by
    rcases pu_mem hx with hx | rfl
    · exact hc.2.1 x hx
    · exact ⟨a, b, c⟩, pu_nd hc.2.2⟩
  cases d with
  | copy a b =>
    cases h
    exact ⟨nm_pu hn kd.1 (pl_le hn b), up, by omega⟩
  | new a =>
    cases h
    exact ⟨nm_pu hn kd (by omega), put _ _ fone (by omega) (by omega), by omega⟩
  | next a b =>
    obtain ⟨v, hv, e⟩ := Option.map_eq_some_iff.mp h
    cases e
    exact ⟨nm_pu hn kd.1 (lk _ _ hv).2.2, up, pl_le hn _⟩
  | tie a b =>
    obtain ⟨v, hv, e⟩ := Option.map_eq_some_iff.mp h
    cases e
    exact ⟨hn, put _ _ (lk _ _ hv).1 (lk _ _ hv).2.1 (pl_le hn b), pl_le hn _⟩
  | drop a =>
    obtain ⟨v, hv, e⟩ := Option.map_eq_some_iff.mp h
    cases e
    exact ⟨hn, ⟨Nat.le_succ_of_le (Nat.le_trans (List.length_filter_le _ _) hc.1), fun x hx => hc.2.1 x (dl_mem hx), dl_nd hc.2.2⟩, pl_le hn _⟩
end Dd

set_option Elab.async false
set_option linter.all false
set_option maxRecDepth 100000
set_option maxHeartbeats 2000000
/-! knots: the order in which ways come to them, plain -/
namespace Kt
open Sx Sr Rq
variable {cs : List (Nat × Nat)}
theorem way_uniq {p e e' : Nat} {W W' : List Nat} (h : Way cs p W e) (h' : Way cs p W' e') : W = W' ∧ e = e' := by
  have one : ∀ {e e' : Nat} {W W' : List Nat}, Way cs p W e → Way cs p W' e' → W.length ≤ W'.length → W = W' ∧ e = e' := fun {e e' W W'} h h' l => by
    obtain ⟨V, ev, c⟩ := h.ch.pre h'.ch l
    cases V with
    | nil =>
      cases c
      exact ⟨by rw [ev, List.append_nil], rfl⟩
    | cons x V =>
      obtain rfl := c.hd
      have k := h'.ch.key x (by rw [ev]; exact List.mem_append_right _ (List.mem_cons_self ..))
      have nd := h'.nd
      rw [ev] at nd
      exact (dup (h.fin k) (List.mem_cons_self ..) nd).elim
  rcases Nat.le_total W.length W'.length with l | l
  · exact one h h' l
  · have := one h' h l
    exact ⟨this.1.symm, this.2.symm⟩
/-! ### what is come to by following -/
/-- those of a row that are not there yet, put behind -/
def addN (F : List Nat) : List Nat → List Nat
  | [] => F
  | x :: l => addN (if x ∈ F then F else F ++ [x]) l
theorem addN_mem {x : Nat} : ∀ {l F : List Nat}, x ∈ addN F l ↔ x ∈ F ∨ x ∈ l
  | [], F => by simp [addN]
  | y :: l, F => by
    show x ∈ addN _ l ↔ _
    rw [addN_mem, List.mem_cons]
    split
    · rename_i h
      exact ⟨fun z => z.elim .inl fun z => .inr (.inr z), fun z => z.elim .inl fun z => z.elim (fun e => .inl (e ▸ h)) .inr⟩
    · rw [List.mem_append, List.mem_singleton, or_assoc]
theorem addN_sub : ∀ {l F : List Nat}, (∀ x ∈ l, x ∈ F) → addN F l = F
  | [], _, _ => rfl
  | y :: l, F, h => by
    show addN (if y ∈ F then F else F ++ [y]) l = F
    rw [if_pos (h y (List.mem_cons_self ..))]
    exact addN_sub fun x hx => h x (List.mem_cons_of_mem _ hx)
theorem addN_nodup : ∀ {l F : List Nat}, F.Nodup → (addN F l).Nodup
  | [], _, h => h
  | y :: l, F, h => by
    show (addN (if y ∈ F then F else F ++ [y]) l).Nodup
    refine addN_nodup ?_
    split
    · exact h
    · rename_i n
      rw [List.nodup_append]
      exact ⟨h, by simp, fun a ha b hb z => n (by rw [List.mem_singleton] at hb; rw [← hb, ← z]; exact ha)⟩
/-- following from one to the next, as long as they are new -/
def folF (nx : Nat → Option Nat) : Nat → Option Nat → List Nat → List Nat
  | 0, _, S => S
  | _ + 1, none, S => S
  | n + 1, some i, S => if i ∈ S then S else folF nx n (nx i) (S ++ [i])
/-- each leads to the next one -/
def Nx (nx : Nat → Option Nat) : List Nat → Prop
  | [] => True
  | [_] => True
  | x :: y :: t => nx x = some y ∧ Nx nx (y :: t)
def Clo (nx : Nat → Option Nat) (F : List Nat) : Prop := ∀ x ∈ F, ∀ y, nx x = some y → y ∈ F
theorem nx_stay {nx : Nat → Option Nat} {F : List Nat} (c : Clo nx F) : ∀ {l : List Nat} {x : Nat}, Nx nx (x :: l) → x ∈ F → ∀ y ∈ x :: l, y ∈ F
  | [], x, _, hx, y, hy => by rw [List.mem_singleton.mp hy]; exact hx
  | z :: l, x, h, hx, y, hy => by
    rcases List.mem_cons.mp hy with rfl | hy
    · exact hx
    · exact nx_stay c h.2 (c x hx z h.1) y hy
theorem fol_add {nx : Nat → Option Nat} {F : List Nat} {e : Nat} (c : Clo nx F) : ∀ (L P : List Nat) (n : Nat), Nx nx (L ++ [e]) → (P ++ L).Nodup → (∀ y, nx e = some y → y ∈ F ++ P ++ L ++ [e]) → L.length + 1 < n →
    folF nx n (L ++ [e]).head? (F ++ P) = addN (F ++ P) (L ++ [e])
  | [], P, n, _, _, hl, hn => by
    obtain ⟨n, rfl⟩ : ∃ k, n = k + 2 := ⟨n - 2, by simp at hn; omega⟩
    show (if e ∈ F ++ P then F ++ P else folF nx (n + 1) (nx e) (F ++ P ++ [e])) = (if e ∈ F ++ P then F ++ P else F ++ P ++ [e])
    split
    · rfl
    · cases h : nx e with
      | none => rfl
      | some y =>
        have m := hl y h
        rw [List.append_nil] at m
        show (if y ∈ F ++ P ++ [e] then F ++ P ++ [e] else _) = _
        rw [if_pos m]
  | x :: L, P, n, hx, nd, hl, hn => by
    obtain ⟨n, rfl⟩ : ∃ k, n = k + 1 := ⟨n - 1, by simp at hn; omega⟩
    have nP : x ∉ P := fun z => (List.nodup_append.mp nd).2.2 x z x (List.mem_cons_self ..) rfl
    show (if x ∈ F ++ P then F ++ P else folF nx n (nx x) (F ++ P ++ [x])) = addN (if x ∈ F ++ P then F ++ P else F ++ P ++ [x]) (L ++ [e])
    by_cases m : x ∈ F ++ P
    · rw [if_pos m, if_pos m]
      have mF : x ∈ F := (List.mem_append.mp m).elim id fun z => absurd z nP
      refine (addN_sub fun y hy => List.mem_append_left _ ?_).symm
      exact nx_stay c (l := L ++ [e]) hx mF y (List.mem_cons_of_mem _ hy)
    · rw [if_neg m, if_neg m, List.append_assoc F P [x]]
      have hd : nx x = (L ++ [e]).head? ∧ Nx nx (L ++ [e]) := by
        cases L with
        | nil => exact ⟨hx.1, trivial⟩
        | cons y L => exact ⟨hx.1, hx.2⟩
      rw [hd.1]
      refine fol_add c L (P ++ [x]) n hd.2 (by rw [List.append_assoc]; exact nd) (fun y hy => ?_) (by simp at hn; omega)
      have := hl y hy
      simp only [List.mem_append, List.mem_cons, List.not_mem_nil, or_false] at this ⊢
      rcases this with ((h | h) | (h | h)) | h
      · exact .inl (.inl (.inl h))
      · exact .inl (.inl (.inr (.inl h)))
      · exact .inl (.inl (.inr (.inr h)))
      · exact .inl (.inr h)
      · exact .inr h
theorem clo_add {nx : Nat → Option Nat} {F : List Nat} (c : Clo nx F) {L : List Nat} (h : ∀ x ∈ L, ∀ y, nx x = some y → y ∈ L) : Clo nx (addN F L) := fun x hx y hy => by
  rw [addN_mem] at hx ⊢
  rcases hx with hx | hx
  · exact .inl (c x hx y hy)
  · exact .inr (h x hx y hy)
/-! ### the next knot -/
section
variable {kn : Nat → Bool}
/-- the first knot from y on -/
def fkF (cs : List (Nat × Nat)) (kn : Nat → Bool) : Nat → Nat → Option Nat
  | 0, _ => none
  | n + 1, y => if kn y = true then some y else (look cs y).bind (fkF cs kn n)
def nxt (cs : List (Nat × Nat)) (kn : Nat → Bool) (n x : Nat) : Option Nat := (look cs x).bind (fkF cs kn n)
theorem ch_cons {x p e : Nat} {W : List Nat} (h : Ch cs p (x :: W) e) : x = p ∧ ∃ y, look cs x = some y ∧ Ch cs y W e := by
  cases h with
  | cons hy c => exact ⟨rfl, _, hy, c⟩
theorem fk_head {e : Nat} (ke : kn e = true) : ∀ {W : List Nat} {y n : Nat}, Ch cs y W e → W.length < n → fkF cs kn n y = ((W ++ [e]).filter kn).head?
  | [], y, n, c, hn => by
    obtain ⟨n, rfl⟩ : ∃ k, n = k + 1 := ⟨n - 1, by simp at hn; omega⟩
    cases c
    show (if kn e = true then some e else _) = _
    rw [if_pos ke]
    simp [ke]
  | x :: W, y, n, c, hn => by
    obtain ⟨n, rfl⟩ : ∃ k, n = k + 1 := ⟨n - 1, by simp at hn; omega⟩
    obtain ⟨rfl, z, hz, c2⟩ := ch_cons c
    show (if kn x = true then some x else (look cs x).bind (fkF cs kn n)) = _
    rw [List.cons_append, List.filter_cons]
    by_cases k : kn x = true
    · rw [if_pos k, if_pos k]; rfl
    · rw [if_neg k, if_neg k, hz]
      exact fk_head ke c2 (by simp at hn; omega)
theorem way_nx {e n : Nat} (ke : kn e = true) : ∀ {W : List Nat} {p : Nat}, Ch cs p W e → W.length < n → Nx (nxt cs kn n) ((W ++ [e]).filter kn)
  | [], p, c, hn => by
    rw [List.nil_append, List.filter_cons, if_pos ke]
    exact trivial
  | x :: W, p, c, hn => by
    obtain ⟨rfl, z, hz, c2⟩ := ch_cons c
    have ih := way_nx (n := n) ke c2 (by simp at hn; omega)
    rw [List.cons_append, List.filter_cons]
    by_cases k : kn x = true
    · rw [if_pos k]
      have h : nxt cs kn n x = ((W ++ [e]).filter kn).head? := by
        unfold nxt
        rw [hz]
        exact fk_head ke c2 (by simp at hn; omega)
      cases e1 : (W ++ [e]).filter kn with
      | nil => exact trivial
      | cons y t =>
        rw [e1] at h ih
        exact ⟨h, ih⟩
    · rw [if_neg k]
      exact ih
/-- what the last one leads to has been come by -/
theorem way_last {p e n : Nat} {W : List Nat} (w : Way cs p W e) (ke : kn e = true) (hn : W.length < n) {y : Nat} (h : nxt cs kn n e = some y) : y ∈ (W ++ [e]).filter kn := by
  have k : (look cs e).isSome = true := by
    unfold nxt at h
    cases z : look cs e with
    | none => rw [z] at h; cases h
    | some v => rfl
  obtain ⟨A, B, rfl⟩ := List.append_of_mem (w.fin k)
  obtain ⟨m, c1, c2⟩ := w.ch.cut
  obtain ⟨rfl, z, hz, c3⟩ := ch_cons c2
  unfold nxt at h
  rw [hz] at h
  have h2 : fkF cs kn n z = some y := h
  rw [fk_head ke c3 (by simp at hn; omega)] at h2
  have my := List.mem_of_mem_head? (Option.mem_def.mpr h2)
  rw [List.mem_filter] at my ⊢
  refine ⟨?_, my.2⟩
  rw [List.append_assoc]
  refine List.mem_append_right _ ?_
  rw [List.cons_append]
  exact List.mem_cons_of_mem _ my.1
/-- the knots of a way, come to by following -/
theorem way_fol {p e n : Nat} {W F : List Nat} (w : Way cs p W e) (ke : kn e = true) (kp : kn p = true) (hn : W.length + 1 < n) (c : Clo (nxt cs kn n) F) :
    folF (nxt cs kn n) n (some p) F = addN F ((W ++ [e]).filter kn) ∧ Clo (nxt cs kn n) (addN F ((W ++ [e]).filter kn)) := by
  have ef : (W ++ [e]).filter kn = W.filter kn ++ [e] := by
    rw [List.filter_append]
    simp [ke]
  have hd : ((W ++ [e]).filter kn).head? = some p := by
    cases W with
    | nil =>
      have := w.ch
      cases this
      simp [ke]
    | cons x W =>
      obtain rfl := w.ch.hd
      rw [List.cons_append, List.filter_cons, if_pos kp]
      rfl
  have nx := way_nx (n := n) ke w.ch (by omega)
  have la : ∀ y, nxt cs kn n e = some y → y ∈ (W ++ [e]).filter kn := fun y h => way_last w ke (by omega) h
  refine ⟨?_, clo_add c fun x hx y hy => ?_⟩
  · have := fol_add c (W.filter kn) [] n (by rw [← ef]; exact nx) (by rw [List.nil_append]; exact w.nd.filter _) (fun y hy => by
      have := la y hy
      rw [ef] at this
      rw [List.append_nil, List.append_assoc]
      exact List.mem_append_right _ this) (by
      have := List.length_filter_le kn W
      omega)
    rw [List.append_nil, ← ef, hd] at this
    exact this
  · have nx2 : ∀ {l : List Nat}, Nx (nxt cs kn n) l → ∀ x ∈ l, ∀ y, nxt cs kn n x = some y → (l.getLast? = some x) ∨ y ∈ l := fun {l} => by
      induction l with
      | nil => exact fun _ x hx => nomatch hx
      | cons a l ih =>
        intro h x hx y hy
        cases l with
        | nil =>
          rw [List.mem_singleton.mp hx]
          exact .inl rfl
        | cons b l =>
          rcases List.mem_cons.mp hx with rfl | hx
          · rw [h.1] at hy
            rw [← Option.some.inj hy]
            exact .inr (List.mem_cons_of_mem _ (List.mem_cons_self ..))
          · rcases ih h.2 x hx y hy with z | z
            · exact .inl (by rw [List.getLast?_cons_cons]; exact z)
            · exact .inr (List.mem_cons_of_mem _ z)
    rcases nx2 nx x hx y hy with z | z
    · rw [ef, List.getLast?_append] at z
      simp at z
      exact la y (z ▸ hy)
    · exact z
end
end Kt

set_option Elab.async false
set_option linter.all false
set_option maxRecDepth 100000
set_option maxHeartbeats 4000000
namespace K10
open PySem PySem.Spec PyProof.Rows L2 Rd Dt Dq Pk Ln En Sx Sy So Sr Lk Rq
local macro_rules | `(tactic| walk_at "rd") => `(tactic| try simp only [↓Lk.tLockE_, ↓Lk.tLock_, ↓Lk.tLc_keys, ↓Lk.tFor_keys, ↓Sy.tTupP_, ↓Sy.rTupP_, ↓Sy.rCatP_, ↓Sy.rSlP_, ↓Sy.rDictT_, ↓Sy.tDGet_, ↓Sy.tDGet1_, ↓Sy.tDIn_, ↓Sy.tDNotIn_, ↓Sy.tMeth_, ↓Sy.tMethKw_, ↓Sy.rSortedS_, ↓Sx.rIsT_, ↓En.tFor_enumT, ↓Sy.tFor_enumL, ↓Rv.tMakeKw_, ↓Prp.tProp_, ↓Lo.tBits_, ↓Lo.tJs_n, ↓Lo.tJs_c, ↓Lo.tFmt_, ↓Lo.gFld_, ↓Lo.tMake_, ↓Lo.rOwn_, ↓Rg.tFor_range3, ↓Rg.tLc_range3, ↓Rg.tLstC_, ↓Rg.tLc_rngV, ↓Le.rNeLE_, ↓Le.rEqLE_, ↓Ls.tLc_str, ↓Ls.sDPut_, ↓Rl.rReprL_, ↓Rl.tCallKS_, ↓Ob.tFld_, ↓Ob.sFld_, ↓tVar_, ↓tC_, ↓tM1, ↓tDNewK_, ↓tOp_, ↓tUn_, ↓rI_, ↓rI0_, ↓rU_, ↓eq_ii, ↓ne_ii, ↓eq_ss, ↓ne_ss, ↓eq_bb, ↓ne_bb, ↓tAndV_, ↓tOrV_, ↓tNotV_, ↓tIf_, ↓tTest_, ↓tB_, ↓tAnd_, ↓tOr_, ↓tNot_, ↓tChain_, ↓tNil_, ↓tCons_, ↓tTup_, ↓tLst_, ↓tCB_, ↓tCall_, ↓tSeq_, ↓tNext_, ↓tRet_, ↓tRetN_, ↓tDrop_, ↓tBreak_, ↓tNever_, ↓tIfS_, ↓tAsg_, ↓gName_, ↓gTup_, ↓gCons_, ↓gNil_, ↓gSub_, ↓tPar_, ↓tPar3_, ↓tSl_, ↓tNoPart_, ↓tPart_, ↓tBM_, ↓tFor_range1, ↓tFor_range2, ↓tFor_list, ↓tFor_tup, L2.start, List.headD_cons, List.headD_nil, List.tail_cons, List.map_cons, List.map_nil, List.length_cons, List.length_nil, List.replicate, List.append_nil, List.nil_append, List.cons_append, List.getElem?_cons_zero, List.getElem?_cons_succ, List.set_cons_zero, List.set_cons_succ, Option.some.injEq, V.int.injEq, V.bl.injEq, V.str.injEq, V.ref.injEq, exists_eq_left, exists_eq_left', exists_eq_right, exists_eq, exists_and_left, and_true, true_and, decide_eq_true_eq, Nat.reduceAdd, Nat.reduceSub, Nat.add_zero, Nat.zero_add, List.cons.injEq, Bool.not_eq_true', decide_eq_false_iff_not, eq_self, reduceCtorEq, Bool.false_eq_true, if_true, if_false, ite_true, ite_false, and_self, ↓tLc_range1, ↓tLc_range2, ↓tLc_list, ↓tLc_tup, ↓tYes_, wipe0, wipe1, ↓tCallS_, ↓rIxL_, ↓rIxT_, ↓rSlL_, ↓rCat_, ↓rSetL_, ↓rRep_, ↓rGcd_, ↓tCallK_, ↓gUnl_, ↓tRaise_, decide_true, decide_false, not_true_eq_false, not_false_eq_true, false_and, or_false, false_or, and_false, and_assoc, exists_const, forall_const, forall_eq'])

section
variable {P : Program} {w : World} {K : PySem.W.Frag} {mg : Str → Option Value} {base : Heap}
/-! ### the law's knots: the cells come by -/
def Rch (cs : List (Nat × Nat)) (hs : List Nat) (x : Nat) : Prop := ∃ p ∈ hs, ∃ U e, Ch cs p (U ++ [x]) e
def Cls (cs : List (Nat × Nat)) (S : List Nat) (e : Option Nat) : Prop := ∀ x ∈ S, ∀ y, look cs x = some y → (look cs y).isSome = true → y ∈ S ∨ e = some y
theorem way_rch {cs : List (Nat × Nat)} {p e : Nat} {W ps : List Nat} (hp : p ∈ ps) (h : Way cs p W e) : ∀ x ∈ W, Rch cs ps x := fun x hx => by
  obtain ⟨A, B, rfl⟩ := List.append_of_mem hx
  have e1 : A ++ x :: B = (A ++ [x]) ++ B := by simp
  have ch := h.ch
  rw [e1] at ch
  obtain ⟨m, c1, _⟩ := ch.cut
  exact ⟨p, hp, A, m, c1⟩
/-- cells come by from some places -/
structure Cm (cs : List (Nat × Nat)) (ps qs R : List Nat) : Prop where
  nd : R.Nodup
  ok : ∀ x ∈ R, Rch cs ps x
  st : ∀ p ∈ qs, (look cs p).isSome = true → p ∈ R
  cl : Cls cs R none
def nw (R W : List Nat) : List Nat := W.filter fun x => !decide (x ∈ R)
theorem Cm.step {cs : List (Nat × Nat)} {ps qs R W : List Nat} {p e : Nat} (h : Cm cs ps qs R) (hp : p ∈ ps) (w : Way cs p W e) : Cm cs ps (qs ++ [p]) (R ++ nw R W) := by
  have mw : ∀ x, x ∈ nw R W ↔ x ∈ W ∧ x ∉ R := fun x => by
    unfold nw
    rw [List.mem_filter, Bool.not_eq_true', decide_eq_false_iff_not]
  have inn : ∀ x ∈ W, x ∈ R ++ nw R W := fun x hx => by
    by_cases c : x ∈ R
    · exact List.mem_append_left _ c
    · exact List.mem_append_right _ ((mw x).mpr ⟨hx, c⟩)
  refine ⟨?_, fun x hx => ?_, fun q hq k => ?_, fun x hx y hy ky => .inl ?_⟩
  · rw [List.nodup_append]
    refine ⟨h.nd, w.nd.filter _, fun a ha b hb z => ?_⟩
    rw [← z] at hb
    exact ((mw a).mp hb).2 ha
  · rcases List.mem_append.mp hx with hx | hx
    · exact h.ok x hx
    · exact way_rch hp w x ((mw x).mp hx).1
  · rcases List.mem_append.mp hq with hq | hq
    · exact List.mem_append_left _ (h.st q hq k)
    · rw [List.mem_singleton.mp hq] at k ⊢
      exact inn p (w.first k)
  · rcases List.mem_append.mp hx with hx | hx
    · rcases h.cl x hx y hy ky with z | z
      · exact List.mem_append_left _ z
      · cases z
    · exact inn y (w.closed ((mw x).mp hx).1 hy ky)
theorem Cm.len {cs : List (Nat × Nat)} {ps qs R : List Nat} (h : Cm cs ps qs R) : R.length ≤ cs.length := few h.nd fun x hx => by
  obtain ⟨p, _, U, e, ch⟩ := h.ok x hx
  exact ch.key x (List.mem_append_right _ (List.mem_singleton_self x))
def nwP (H0 : Hp) (R W : List Nat) (D : Addr) (j : Nat) (H : Hp) : Prop := Same H0 H ∧ H D = some (.lst ((nw R (W.take j)).map iW))
theorem nwP_step {H0 H : Hp} {R W : List Nat} {D : Addr} {j c : Nat} (hP : nwP H0 R W D j H) (hD : H0 D = none) (hl : W.length ≤ 1000) (e : W[j]? = some c) :
    (c ∉ R → ∃ acc, H D = some (.lst acc) ∧ acc.length < sizeLine ∧ nwP H0 R W D (j + 1) (upd H D (.lst (acc ++ [.int (c : Int)])))) ∧ (c ∈ R → nwP H0 R W D (j + 1) H) := by
  obtain ⟨hs, hL⟩ := hP
  have et : nw R (W.take (j + 1)) = nw R (W.take j) ++ (if c ∈ R then [] else [c]) := by
    unfold nw
    rw [List.take_succ, e, List.filter_append]
    congr 1
    show [c].filter _ = _
    rw [List.filter_cons, List.filter_nil]
    by_cases q : c ∈ R
    · rw [if_neg (by rw [decide_eq_true q]; decide), if_pos q]
    · rw [if_pos (by rw [decide_eq_false q]; decide), if_neg q]
  refine ⟨fun h => ⟨_, hL, ?_, fun a o q => ?_, ?_⟩, fun h => ⟨hs, ?_⟩⟩
  · rw [List.length_map]
    have h1 := List.length_filter_le (fun x => !decide (x ∈ R)) (W.take j)
    have : (List.take j W).length ≤ W.length := List.length_take_le' _ _
    have zl : (1000000 : Nat) ≤ sizeLine := line_big
    unfold nw
    omega
  · rw [upd_ne (ne_of_none q hD)]; exact hs a o q
  · rw [upd_same, et, if_neg h, List.map_append]; rfl
  · rw [et, if_pos h, List.append_nil]
    exact hL
theorem nw_app (R W V : List Nat) : nw R (W ++ V) = nw R W ++ nw R V := List.filter_append ..
open Classical in
/-- the way from a place -/
noncomputable def wayOf (cs : List (Nat × Nat)) (p : Nat) : List Nat × Nat := if h : ∃ w : List Nat × Nat, Way cs p w.1 w.2 then choose h else ([], p)
theorem wayOf_eq {cs : List (Nat × Nat)} {p e : Nat} {W : List Nat} (w : Way cs p W e) : wayOf cs p = (W, e) := by
  have h : ∃ w : List Nat × Nat, Way cs p w.1 w.2 := ⟨(W, e), w⟩
  unfold wayOf
  rw [dif_pos h]
  have := Kt.way_uniq (Classical.choose_spec h) w
  exact Prod.ext this.1 this.2
/-- the cells come by, in their order -/
noncomputable def comeF (cs ns : List (Nat × Nat)) : List Nat := ns.foldl (fun R n => R ++ nw R (wayOf cs n.2).1) []
def intoL (cs : List (Nat × Nat)) (R : List Nat) : List Nat := R.filterMap (look cs)
def knB (cs ns : List (Nat × Nat)) (R : List Nat) (x : Nat) : Bool := (look cs x).isNone || (decide (x ∈ ns.map (·.2)) || decide (1 < (intoL cs R).count x))
/-- the knots, in their order -/
noncomputable def knF (cs ns : List (Nat × Nat)) (kn : Nat → Bool) : List Nat := ns.foldl (fun F n => Kt.addN F (((wayOf cs n.2).1 ++ [(wayOf cs n.2).2]).filter kn)) []
theorem fold_take {α β : Type} (f : β → α → β) (b : β) (l : List α) {i : Nat} {x : α} (h : l[i]? = some x) : (l.take (i + 1)).foldl f b = f ((l.take i).foldl f b) x := by
  rw [List.take_succ, h, List.foldl_append]
  rfl
theorem addN_app : ∀ (l m F : List Nat), Kt.addN F (l ++ m) = Kt.addN (Kt.addN F l) m
  | [], _, _ => rfl
  | x :: l, m, F => addN_app l m _
theorem look_cons (d : Nat × Nat) (ds : List (Nat × Nat)) (x : Nat) : look (d :: ds) x = if d.1 = x then some d.2 else look ds x := by
  unfold look
  rw [List.find?_cons]
  by_cases c : d.1 = x
  · rw [if_pos c, decide_eq_true c]; rfl
  · rw [if_neg c, decide_eq_false c]
theorem look_map (k v x : Nat) : ∀ ds : List (Nat × Nat), look (ds.map fun d => if d.1 = k then (d.1, v) else d) x = if x = k then (look ds k).map (fun _ => v) else look ds x
  | [] => by split <;> rfl
  | d :: ds => by
    rw [List.map_cons, look_cons, look_map k v x ds, look_cons, look_cons]
    by_cases c : d.1 = k
    · rw [if_pos c]
      by_cases q : x = k
      · rw [if_pos (by show d.1 = x; omega), if_pos q, if_pos c]; rfl
      · rw [if_neg (by show ¬ d.1 = x; omega), if_neg q, if_neg q, if_neg (by omega)]
    · rw [if_neg c]
      by_cases q : x = k
      · rw [if_neg (by omega), if_pos q, if_pos q, if_neg c]
      · rw [if_neg q, if_neg q]
theorem look_app1 (k v x : Nat) : ∀ ds : List (Nat × Nat), look (ds ++ [(k, v)]) x = if (look ds x).isSome = true then look ds x else if x = k then some v else none
  | [] => by
    rw [List.nil_append, look_cons]
    show (if k = x then some v else none) = (if x = k then some v else none)
    by_cases c : x = k
    · rw [if_pos c, if_pos c.symm]
    · rw [if_neg c, if_neg (fun z => c z.symm)]
  | d :: ds => by
    rw [List.cons_append, look_cons, look_app1 k v x ds, look_cons]
    by_cases c : d.1 = x
    · rw [if_pos c, if_pos c]; rfl
    · rw [if_neg c, if_neg c]
theorem look_pu (ds : List (Nat × Nat)) (k v x : Nat) : look (Dd.pu ds k v) x = if x = k then some v else look ds x := by
  unfold Dd.pu
  split
  · rename_i h
    obtain ⟨d, hd, ed⟩ := List.any_eq_true.mp h
    have hs : (look ds k).isSome = true := look_some.mpr ⟨d, hd, of_decide_eq_true ed⟩
    obtain ⟨w, hw⟩ := Option.isSome_iff_exists.mp hs
    rw [look_map, hw]
    rfl
  · rename_i h
    rw [look_app1]
    by_cases c : x = k
    · have hn : look ds x = none := by
        cases z : look ds x with
        | none => rfl
        | some w =>
          obtain ⟨d, hd, ed⟩ := look_some.mp (show (look ds x).isSome = true by rw [z]; rfl)
          exact absurd (List.any_eq_true.mpr ⟨d, hd, decide_eq_true (ed.trans c)⟩) h
      rw [hn, if_neg (by decide), if_pos c]
    · rw [if_neg c, if_neg c]
      cases z : look ds x with
      | none => rfl
      | some w => rfl
/-- how often: keys are places -/
def intP (H0 : Hp) (I : Addr) (m : Nat) (l : List Nat) (H : Hp) : Prop := But I H0 H ∧ ∃ ds : List (Nat × Nat), H I = some (.dK (ds.map ck)) ∧ ds.length ≤ m ∧ ∀ x, (look ds x).getD 0 = l.count x
def spKn (K : PySem.W.Frag) : Sp := fun vs H Q _ => ∃ (a d : Addr) (ns cs : List (Nat × Nat)), vs = [.ref a, .ref d] ∧ PrsAt K H a (ns.map nk) ∧ H d = some (.dK (cs.map ck)) ∧ ns.length ≤ 4 ∧ cs.length ≤ 500 ∧
  ∀ (t b c : Addr) (R : List Nat) H', Same H H' → H' t = some (.tup [.ref b, .ref c]) → H' c = some (.lst (R.map iW)) → Cm cs (ns.map (·.2)) (ns.map (·.2)) R → R = comeF cs ns → H' b = some (.lst ((knF cs ns (knB cs ns R)).map iW)) → (∀ n ∈ ns, ∃ W e, Way cs n.2 W e) → Q (.ref t) H'
theorem sc_kn : FnScope ["_law_names", "_law_arrows_here", "_law_come", "_law_into", "_law_found", "_law_letter", "_law_place", "_law_cell", "_law_heads", "_law_cells", "_law_end", "_law_here"] ["_law_names", "_law_arrows_here"] (defScope (top 37)) := ⟨rfl, rfl, rfl, by decide +kernel, rfl, by decide +kernel, by decide +kernel⟩
theorem ok_kn {f : Addr} {fd : FuncData} {f1 : Addr} {fd1 : FuncData} (T : Tx mg) (F : FD K "_law_knots" (top 37) f fd) (C1 : Cal P w K mg base CX0 1 "_law_gone_along" ["_law_arrows_here", "_law_place"] (spGA K) f1 fd1) : FnOk P w K mg base CX0 2 f fd ["_law_names", "_law_arrows_here"] (spKn K) := by
  obtain ⟨g_law_gone_along, k_law_gone_along, b_law_gone_along, F_law_gone_along⟩ := C1
  refine F.ok sc_kn (fun vs H Q E h => ?_) (fun cdv A outer s H vs Q E hr h => ?_)
  · obtain ⟨_, _, _, _, rfl, _⟩ := h
    rfl
  · obtain ⟨a, d, ns, cs, rfl, hn, hd, n4, c5, k⟩ := h
    have nd := sc_kn.nd
    have zl : (1000000 : Nat) ≤ sizeLine := line_big
    refine ⟨_, (pss_cons (ps_asg (pe_tup (pa_cons (pe_lst pa_nil) (pa_cons pe_dnewK (pa_cons (pe_lst pa_nil) pa_nil)))) (pg_tup rfl (pgs_cons (pg_name (i := 2) nd rfl (Or.inr rfl) (hf := Or.inl rfl)) (pgs_cons (pg_name (i := 3) nd rfl (Or.inl rfl) (hf := Or.inr rfl)) (pgs_cons (pg_name (i := 4) nd rfl (Or.inl rfl) (hf := Or.inr rfl)) pgs_nil)))))
        (pss_cons (ps_for (passes_of rfl) rfl (pi_tup (pv 0)) (pg_tup rfl (pgs_cons (pg_name (i := 5) nd rfl (Or.inl rfl) (hf := Or.inr rfl)) (pgs_cons (pg_name (i := 6) nd rfl (Or.inl rfl) (hf := Or.inr rfl)) pgs_nil))) (pss_one (ps_set (i := 2) nd rfl (Or.inr rfl) (pe_op op_cat (pv 2) (pe_lc (own := [("_law_cell", 7)]) rfl nd (pi_list (pe_ix (r := rIxT K) ix_tup (pe_call F_law_gone_along (hr.mono (by omega)) rfl g_law_gone_along k_law_gone_along b_law_gone_along .nil pass0 (pa_cons (pv 1) (pa_cons (pv 6) pa_nil))) pe_int (fun _ _ => rfl))) (blkOk_by (N := ["_law_names", "_law_arrows_here", "_law_come", "_law_into", "_law_found", "_law_letter", "_law_place", "_law_cell", "_law_heads", "_law_cells", "_law_end", "_law_here"]) (sc := defScope (top 37)) (by decide +kernel)) (fun _ _ _ _ _ => (pg_name (i := 7) nd rfl (Or.inl rfl))) (fun _ _ _ _ _ => (pts_one (pt_cmpR (Sy.op_notIn_seqK (K := K) rfl) (pv 7) (pv 2) rfl))) (fun _ _ _ _ _ => (pv 7)))))))
        (pss_cons (ps_for (passes_of rfl) rfl (pi_list (pv 2)) (pg_name (i := 7) nd rfl (Or.inl rfl)) (pss_one (ps_dput (hu_of hr) (pv 3) (pe_dget (hu_of hr) (pv 1) (pv 7) (fun _ _ => rfl)) (pe_op op_add (pe_dget2 (hu_of hr) (pv 3) (pe_dget (hu_of hr) (pv 1) (pv 7) (fun _ _ => rfl)) pe_int ⟨rfl, rfl, rfl, rfl⟩) pe_int) rfl)))
        (pss_cons (ps_setLc (i := 8) (own := [("_law_letter", 5), ("_law_place", 6)]) rfl nd rfl rfl (sw_true rfl rfl rfl (by decide +kernel)) (pi_tup (pv 0)) (blkOk_by (N := ["_law_names", "_law_arrows_here", "_law_come", "_law_into", "_law_found", "_law_letter", "_law_place", "_law_cell", "_law_heads", "_law_cells", "_law_end", "_law_here"]) (sc := defScope (top 37)) (by decide +kernel)) (fun _ _ _ _ _ => (pg_tupK (K := K) (n := 2) rfl rfl (pgs_cons (pg_name (i := 5) nd rfl (Or.inl rfl) (hf := Or.inr rfl)) (pgs_cons (pg_name (i := 6) nd rfl (Or.inl rfl) (hf := Or.inr rfl)) pgs_nil)) rfl rfl)) (fun _ _ _ _ _ => pts_nil) (fun _ _ _ _ _ => (pv 6)))
        (pss_cons (ps_for (passes_of rfl) rfl (pi_tup (pv 0)) (pg_tup rfl (pgs_cons (pg_name (i := 5) nd rfl (Or.inl rfl) (hf := Or.inr rfl)) (pgs_cons (pg_name (i := 6) nd rfl (Or.inl rfl) (hf := Or.inr rfl)) pgs_nil))) (pss_cons (ps_asg (pe_call F_law_gone_along (hr.mono (by omega)) rfl g_law_gone_along k_law_gone_along b_law_gone_along .nil pass0 (pa_cons (pv 1) (pa_cons (pv 6) pa_nil))) (pg_tup rfl (pgs_cons (pg_name (i := 9) nd rfl (Or.inl rfl) (hf := Or.inr rfl)) (pgs_cons (pg_name (i := 10) nd rfl (Or.inl rfl) (hf := Or.inr rfl)) pgs_nil))))
        (pss_one (ps_for (passes_of rfl) rfl (pi_list (pe_op op_cat (pv 9) (pe_lst (pa_cons (pv 10) pa_nil)))) (pg_name (i := 11) nd rfl (Or.inl rfl)) (pss_one (ps_if (PW.pt (pw_and (pt_cmpR (Sy.op_notIn_seqK (K := K) rfl) (pv 11) (pv 4) rfl) (pw_and1 (PW.pt (pw_or (pt_cmp (pc_dnotin (hu_of hr) (pv 11) (pv 1))) (pw_or (pt_cmpR (Ls.op_in_seqK (K := K) rfl) (pv 11) (pv 8) rfl) (pw_or1 (pt_cmpR op_gt (pe_dget2 (hu_of hr) (pv 3) (pv 11) pe_int ⟨rfl, rfl, rfl, rfl⟩) pe_int (nomark _))))))))) (pss_one (ps_expr (pe_bm PySem.F.plainAttrs_list PySem.F.slot_list_append PySem.F.type_list_append mt_append (pv 4) (pa_cons (pv 11) pa_nil)))) pss_nil))))))
        (pss_one (ps_ret (pe_tup (pa_cons (pv 4) (pa_cons (pv 2) pa_nil)))))))))), ?_⟩
    refine sq fun U hU => ?_
    walk_at "rd"
    refine ⟨by omega, fun c0 hc0 I hI => ⟨by omega, fun F0 hF => ⟨by omega, fun q hq => ⟨_, SqT.of upd_same, rfl, _, _, rfl, _, _, rfl, _, _, rfl, rfl, hU _ _ ?_⟩⟩⟩⟩
    clear hU
    have s1 := same_new (o := HO.lst []) hc0
    have s2 := same_new (o := HO.dK []) hI
    have s3 := same_new (o := HO.lst []) hF
    have s4 := same_new (o := HO.tup [.ref c0, .ref I, .ref F0]) hq
    have e1 : upd (upd (upd (upd H c0 (.lst [])) I (.dK [])) F0 (.lst [])) q (.tup [.ref c0, .ref I, .ref F0]) c0 = some (.lst []) := s4 _ _ (s3 _ _ (s2 _ _ upd_same))
    have e2 : upd (upd (upd (upd H c0 (.lst [])) I (.dK [])) F0 (.lst [])) q (.tup [.ref c0, .ref I, .ref F0]) I = some (.dK []) := s4 _ _ (s3 _ _ upd_same)
    have e3 : upd (upd (upd (upd H c0 (.lst [])) I (.dK [])) F0 (.lst [])) q (.tup [.ref c0, .ref I, .ref F0]) F0 = some (.lst []) := s4 _ _ upd_same
    have hI0 : H I = none := by
      cases z : H I with
      | none => rfl
      | some o => have := s1 _ _ z; rw [hI] at this; cases this
    have hF0 : H F0 = none := by
      cases z : H F0 with
      | none => rfl
      | some o => have := s2 _ _ (s1 _ _ z); rw [hF] at this; cases this
    have hcF : c0 ≠ F0 := fun z => by rw [← z, s2 _ _ upd_same] at hF; cases hF
    have s14 : Same H _ := s1.trans (s2.trans (s3.trans s4))
    generalize upd (upd (upd (upd H c0 (.lst [])) I (.dK [])) F0 (.lst [])) q (.tup [.ref c0, .ref I, .ref F0]) = H1 at e1 e2 e3 s14 ⊢
    clear s1 s2 s3 s4 hq
    obtain ⟨xs, pl, prs⟩ := hn
    have lx := prs.len
    rw [List.length_map] at lx
    have pl1 := PlT.up s14 pl
    have prs1 := prs.up s14
    refine sq fun U hU => ?_
    walk_at "rd"
    refine ⟨⟨_, pl1.sqt⟩, for_t (xs := xs) (fun i σ H' => Same H1 H' ∧ ∃ (cr : Addr) (R : List Nat) (y5 y6 : Option V), H' cr = some (.lst (R.map iW)) ∧ cr ≠ F0 ∧ Cm cs (ns.map (·.2)) ((ns.take i).map (·.2)) R ∧ (R = comeF cs (ns.take i) ∧ ∀ n ∈ ns.take i, ∃ W e, Way cs n.2 W e) ∧ σ = [some (.ref a), some (.ref d), some (.ref cr), some (.ref I), some (.ref F0), y5, y6, none, none, none, none, none]) ⟨Same.refl _, c0, [], none, none, e1, hcF, ⟨List.nodup_nil, nofun, nofun, nofun⟩, ⟨rfl, fun _ z => nomatch z⟩, rfl⟩ (fun i σ H' _ hp => sqt_up hp.1 pl1.sqt) ?_ ?_⟩
    · rintro i x σ H2 hx ⟨s2, cr, R, y5, y6, hcr, crF, hR, ⟨eR, wR⟩, rfl⟩
      obtain ⟨kv, b, hkv, rfl, eb⟩ := (prs1.up s2).atV hx
      obtain ⟨n, hn, rfl⟩ := map_at hkv
      have eb : SqT K H2 b [.str (L1 n.1), .int n.2] := eb
      have mn := List.mem_of_getElem? hn
      walk_at "rd"
      refine ⟨_, eb, rfl, _, _, rfl, _, _, rfl, rfl, d, cs, n.2, rfl, s2 _ _ (s14 _ _ hd), by omega, fun t1 a1 W e H3 s3 _ na1 et1 ea1 hw => ⟨t1, rfl, _, SqT.of et1, _, rfl, a1, rfl, ⟨_, SqL.of ea1⟩, ?_⟩⟩
      have wl := few hw.nd hw.ch.key
      have hcr3 := s3 _ _ hcr
      refine lc_l (nwP H3 R W) fun D hD => ⟨⟨same_new hD, upd_same⟩, fun j H' _ hP => SqL.of (hP.1 _ _ ea1), ?_, ?_⟩
      · rintro j x H5 hx hP
        rw [List.getElem?_map] at hx
        cases hc : W[j]? with
        | none => rw [hc] at hx; cases hx
        | some c =>
          rw [hc] at hx
          cases hx
          obtain ⟨st1, st2⟩ := nwP_step hP hD (by omega) hc
          unfold Lturn
          walk_at "rd"
          refine ⟨cr, R.map iW, rfl, .inl (SqL.of (hP.1 _ _ hcr3)), rfl, flat_W R, ?_⟩
          rw [if_pos rfl, inV_W]
          refine ⟨_, rfl, ?_⟩
          by_cases cm : c ∈ R
          · rw [decide_eq_true cm, if_neg (by decide)]
            exact st2 cm
          · rw [decide_eq_false cm, if_pos (by decide)]
            exact st1 cm
      rintro H5 ⟨s5, hL5⟩
      rw [List.length_map, List.take_length] at hL5
      have hm := hR.step (e := e) (List.mem_map_of_mem mn) hw
      have ml := hm.len
      refine ⟨D, rfl, _, s5 _ _ hcr3, _, hL5, ?_, fun p1 hp1 => ⟨s2.trans (s3.trans (s5.trans (same_new hp1))), p1, R ++ nw R W, by rw [upd_same, List.map_append], (fun z => by rw [z, s5 _ _ (s3 _ _ (s2 _ _ e3))] at hp1; cases hp1), ?_, ?_, ?_, rfl, _, rfl⟩⟩
      · rw [List.length_append] at ml
        rw [List.length_map, List.length_map]
        omega
      · rw [List.take_succ, hn, List.map_append]
        exact hm
      · unfold comeF
        rw [fold_take _ _ _ hn, wayOf_eq hw]
        rw [eR]
        rfl
      · intro n' hn'
        rw [List.take_succ, hn] at hn'
        rcases List.mem_append.mp hn' with h | h
        · exact wR n' h
        · rw [show n' = n from by simpa using h]
          exact ⟨W, e, hw⟩
    rintro σ H2 ⟨s2, cr, R, y5, y6, hcr, crF, hR, ⟨eR, wR⟩, rfl⟩
    rw [lx, List.take_length] at hR eR wR
    refine hU _ _ ?_
    clear hU
    refine sq fun U hU => ?_
    walk_at "rd"
    have rl := hR.len
    refine ⟨⟨_, SqL.of hcr⟩, for_l (xs := R.map iW) (fun j σ H' => intP H2 I j (intoL cs (R.take j)) H' ∧ ∃ y7, σ = [some (.ref a), some (.ref d), some (.ref cr), some (.ref I), some (.ref F0), y5, y6, y7, none, none, none, none]) ⟨⟨But.refl, [], s2 _ _ e2, Nat.zero_le _, fun _ => rfl⟩, none, rfl⟩ (fun i σ H' _ hp => SqL.of (hp.1.1 _ _ (fun z => by rw [z, s2 _ _ e2] at hcr; cases hcr) hcr)) ?_ ?_⟩
    · rintro j x σ H3 hx ⟨⟨b3, ds, hI3, l3, cI⟩, y7, rfl⟩
      rw [List.getElem?_map] at hx
      cases hc : R[j]? with
      | none => rw [hc] at hx; cases hx
      | some c =>
        rw [hc] at hx
        cases hx
        obtain ⟨v, ev⟩ : ∃ v, look cs c = some v := by
          obtain ⟨p, _, U, e, ch⟩ := hR.ok c (List.mem_of_getElem? hc)
          exact Option.isSome_iff_exists.mp (ch.key c (List.mem_append_right _ (List.mem_singleton_self c)))
        walk_at "rd"
        simp only [tDGet2]
        walk_at "rd"
        have dI : d ≠ I := fun z => by rw [z, hI0] at hd; cases hd
        have hd3 := b3 _ _ dI (s2 _ _ (s14 _ _ hd))
        have gd := get_c hd3 c
        rw [ev] at gd
        have gI := get_c hI3 v
        have jl : j < R.length := by
          rcases Nat.lt_or_ge j R.length with h | h
          · exact h
          · rw [List.getElem?_eq_none h] at hc; cases hc
        obtain ⟨m, em, em2⟩ : ∃ m : Nat, (((look ds v).map fun v : Nat => L2.V.int v).getD (.int 0)) = .int (m : Nat) ∧ (look ds v).getD 0 = m := by
          cases look ds v with
          | none => exact ⟨0, rfl, rfl⟩
          | some m => exact ⟨m, rfl, rfl⟩
        refine ⟨.inl ⟨_, .inl hI3⟩, _, gd, _, gI, _, em, _, gd, _, DPut.k (k := .inl (v : Int)) hI3 (by rw [List.length_map]; omega), ⟨fun b o n e => by rw [upd_ne n]; exact b3 b o n e, Dd.pu ds v (m + 1), ?_, ?_, fun x => ?_⟩, _, rfl⟩
        · rw [upd_same, show ((m : Nat) : Int) + 1 = ((m + 1 : Nat) : Int) from by omega, Dd.pu_ck]
        · have := Dd.pu_len ds v (m + 1)
          omega
        · unfold intoL
          rw [look_pu, List.take_succ, hc, List.filterMap_append, List.count_append]
          have e1 : (some c).toList.filterMap (look cs) = [v] := by
            show [c].filterMap (look cs) = _
            rw [List.filterMap_cons, ev]
            rfl
          rw [e1]
          have := cI x
          unfold intoL at this
          by_cases z : x = v
          · subst z
            rw [if_pos rfl, List.count_singleton, ← this, em2]
            simp
          · rw [if_neg z, this, List.count_singleton]
            have zb : (v == x) = false := by
              rw [beq_eq_false_iff_ne]
              exact fun h => z h.symm
            rw [zb]
            rfl
    rintro σ H3 ⟨⟨b3, ds, hI3, l3, cI⟩, y7, rfl⟩
    rw [List.length_map, List.take_length] at cI
    refine hU _ _ ?_
    clear hU
    refine sq fun U hU => ?_
    walk_at "rd"
    have ncI : ∀ {o : HO} {q : Addr}, H1 q = some o → q ≠ I → H3 q = some o := fun h n => b3 _ _ n (s2 _ _ h)
    have plI : PlT H3 a xs := PlT.keep (PlT.up s2 pl1) fun o e => b3 _ _ (fun z => by obtain ⟨o2, h2, _⟩ := pl; rw [z, hI0] at h2; cases h2) e
    have prs3 : Prs K H3 xs (ns.map nk) := (prs1.up s2).but b3 (s2 _ _ e2) (fun xs => ⟨fun z => (by cases z), fun _ z => (by cases z)⟩)
    refine ⟨⟨_, plI.sqt⟩, lc_t (xs := xs) (fun D j H' => Same H3 H' ∧ H' D = some (.lst (((ns.take j).map (·.2)).map iW))) fun D hD => ⟨⟨same_new hD, upd_same⟩, fun j H' _ hP => sqt_up hP.1 plI.sqt, ?_, ?_⟩⟩
    · rintro j y H4 hy ⟨s4, hL⟩
      obtain ⟨kv, b, hkv, rfl, eb⟩ := (prs3.up s4).atV hy
      obtain ⟨n, hn, rfl⟩ := map_at hkv
      have eb : SqT K H4 b [.str (L1 n.1), .int n.2] := eb
      unfold Lturn
      walk_at "rd"
      refine ⟨_, eb, rfl, _, _, rfl, _, _, rfl, rfl, _, hL, ?_, fun b o e => ?_, ?_⟩
      · rw [List.length_map, List.length_map, List.length_take]
        omega
      · rw [upd_ne (ne_of_none e hD)]
        exact s4 _ _ e
      · rw [upd_same, List.take_succ, hn, List.map_append, List.map_append]
        rfl
    rintro H4 ⟨s4, hL⟩
    rw [lx, List.take_length] at hL
    refine hU _ _ ?_
    clear hU
    have I4 := s4 _ _ hI3
    have F4 : H4 F0 = some (.lst []) := s4 _ _ (b3 _ _ (fun z => by rw [z, e2] at e3; cases e3) (s2 _ _ e3))
    have d4 : H4 d = some (.dK (cs.map ck)) := s4 _ _ (b3 _ _ (fun z => by rw [z, hI0] at hd; cases hd) (s2 _ _ (s14 _ _ hd)))
    have c4 : H4 cr = some (.lst (R.map iW)) := s4 _ _ (b3 _ _ (fun z => by rw [z, s2 _ _ e2] at hcr; cases hcr) hcr)
    have pl4 := PlT.up s4 plI
    have prs4 := prs3.up s4
    have F4D : F0 ≠ D := fun z => by rw [← z, b3 _ _ (fun z => by rw [z, e2] at e3; cases e3) (s2 _ _ e3)] at hD; cases hD
    have b04 : ∀ b o, H b = some o → H4 b = some o := fun b o e => s4 _ _ (b3 _ _ (fun z => by rw [z, hI0] at e; cases e) (s2 _ _ (s14 _ _ e)))
    refine sq fun U hU => ?_
    walk_at "rd"
    refine ⟨⟨_, pl4.sqt⟩, for_t (xs := xs) (fun i σ H' => But F0 H4 H' ∧ ∃ (zs : List Nat) (y5 y6 y7 y9 y10 y11 : Option V), H' F0 = some (.lst (zs.map iW)) ∧ (zs.length ≤ i * 502 ∧ zs = knF cs (ns.take i) (knB cs ns R)) ∧ σ = [some (.ref a), some (.ref d), some (.ref cr), some (.ref I), some (.ref F0), y5, y6, y7, some (.ref D), y9, y10, y11]) ⟨But.refl, [], y5, y6, y7, none, none, none, F4, ⟨Nat.zero_le _, rfl⟩, rfl⟩ (fun i σ H' _ hp => sqt_but hp.1 (fun z => by obtain ⟨o2, h2, _⟩ := pl; rw [z, hF0] at h2; cases h2) pl4.sqt) ?_ ?_⟩
    · rintro i x σ H5 hx ⟨b5, zs, z5, z6, z7, z9, z10, z11, hF5, ⟨lz, ez⟩, rfl⟩
      obtain ⟨kv, b, hkv, rfl, eb⟩ := (prs4.but b5 F4 lst_no).atV hx
      obtain ⟨n, hn, rfl⟩ := map_at hkv
      have eb : SqT K H5 b [.str (L1 n.1), .int n.2] := eb
      have i4 : i < 4 := by
        rcases Nat.lt_or_ge i ns.length with h | h
        · omega
        · rw [List.getElem?_eq_none h] at hn; cases hn
      walk_at "rd"
      have d5 := b5 _ _ (fun z => by rw [z, hF0] at hd; cases hd) d4
      refine ⟨_, eb, rfl, _, _, rfl, _, _, rfl, rfl, d, cs, n.2, rfl, d5, by omega, fun t1 a1 W e H6 s6 _ na1 et1 ea1 hw => ⟨t1, rfl, _, SqT.of et1, rfl, _, _, rfl, _, _, rfl, rfl, ?_⟩⟩
      have wl := few hw.nd hw.ch.key
      refine ⟨by omega, fun p1 hp1 => ?_⟩
      have ea6 := same_new (o := HO.lst [.int (e : Nat)]) hp1 _ _ ea1
      refine ⟨a1, rfl, W.map iW, ea6, _, upd_same, ?_, fun p2 hp2 => ?_⟩
      · rw [List.length_map, List.length_singleton]
        omega
      have s7 := (same_new (o := HO.lst [.int (e : Nat)]) hp1).trans (same_new (o := HO.lst (W.map iW ++ [.int (e : Nat)])) hp2)
      have e7 : upd (upd H6 p1 (.lst [.int (e : Nat)])) p2 (.lst (W.map iW ++ [.int (e : Nat)])) p2 = some (.lst ((W ++ [e]).map iW)) := by rw [upd_same, List.map_append]; rfl
      generalize upd (upd H6 p1 (.lst [.int (e : Nat)])) p2 (.lst (W.map iW ++ [.int (e : Nat)])) = H7 at s7 e7 ⊢
      have s57 : Same H5 H7 := s6.trans s7
      have hF7 := s57 _ _ hF5
      have p2F : p2 ≠ F0 := fun z => by
        rw [z] at hp2
        have := same_new (o := HO.lst [.int (e : Nat)]) hp1 _ _ (s6 _ _ hF5)
        rw [hp2] at this
        cases this
      refine ⟨⟨_, SqL.of e7⟩, for_l (xs := (W ++ [e]).map iW) (fun j σ H' => But F0 H7 H' ∧ ∃ (zt : List Nat) (y11 : Option V), H' F0 = some (.lst (zt.map iW)) ∧ (zt.length ≤ i * 502 + j ∧ zt = Kt.addN zs (((W ++ [e]).take j).filter (knB cs ns R))) ∧ σ = [some (.ref a), some (.ref d), some (.ref cr), some (.ref I), some (.ref F0), some (.str (L1 n.1)), some (.int n.2), z7, some (.ref D), some (.ref a1), some (.int e), y11]) ⟨But.refl, zs, z11, hF7, ⟨by omega, rfl⟩, rfl⟩ (fun j σ H' _ hp => SqL.of (hp.1 _ _ p2F e7)) ?_ ?_⟩
      · rintro j y σ H8 hy ⟨b8, zs8, y11, hF8, ⟨lz8, ez8⟩, rfl⟩
        obtain ⟨c, hc, rfl⟩ := map_at hy
        have jl : j < (W ++ [e]).length := by
          rcases Nat.lt_or_ge j (W ++ [e]).length with h | h
          · exact h
          · rw [List.getElem?_eq_none h] at hc; cases hc
        rw [List.length_append, List.length_singleton] at jl
        have e0 : ∀ zt, zt = Kt.addN zs (((W ++ [e]).take (j + 1)).filter (knB cs ns R)) ↔ zt = Kt.addN zs8 (if knB cs ns R c = true then [c] else []) := fun zt => by
          rw [List.take_succ, hc, List.filter_append, addN_app, ← ez8]
          show _ ↔ _
          rw [show (some c).toList.filter (knB cs ns R) = (if knB cs ns R c = true then [c] else []) from by
            show [c].filter _ = _
            rw [List.filter_cons, List.filter_nil]]
        have skip : (c ∈ zs8 ∨ knB cs ns R c = false) → But F0 H7 H8 ∧ ∃ (zt : List Nat), H8 F0 = some (.lst (zt.map iW)) ∧ zt.length ≤ i * 502 + (j + 1) ∧ zt = Kt.addN zs (((W ++ [e]).take (j + 1)).filter (knB cs ns R)) ∧ ∃ (x : Option V), some (iW c) = x := fun h => ⟨b8, zs8, hF8, by omega, (e0 zs8).mpr (by
          split
          · rename_i q
            have h : c ∈ zs8 := h.elim id fun h => by rw [h] at q; cases q
            exact (Kt.addN_sub fun x hx => by rw [List.mem_singleton.mp hx]; exact h).symm
          · rfl), _, rfl⟩
        have b48 : But F0 H4 H8 := (b5.trans (But.same s57)).trans b8
        have d8 := b48 _ _ (fun z => by rw [z, hF0] at hd; cases hd) d4
        have I8 := b48 _ _ (fun z => by rw [z, F4] at I4; cases I4) I4
        have D8 := b48 _ _ F4D.symm hL
        walk_at "rd"
        simp only [tDGet2]
        walk_at "rd"
        have grow : c ∉ zs8 → knB cs ns R c = true → tyV K "list" (V.ref F0) H8 ∧ rAppend (V.ref F0) [iW c] H8 fun x H1 => But F0 H7 H1 ∧ ∃ zt, H1 F0 = some (HO.lst (List.map iW zt)) ∧ zt.length ≤ i * 502 + (j + 1) ∧ zt = Kt.addN zs (((W ++ [e]).take (j + 1)).filter (knB cs ns R)) ∧ ∃ x, some (iW c) = x := fun g1 g2 => by
          refine ⟨.inl ⟨rfl, _, SqL.of hF8⟩, F0, _, _, rfl, rfl, hF8, by rw [List.length_map]; omega, fun b o n e => by rw [upd_ne n]; exact b8 b o n e, zs8 ++ [c], ?_, by rw [List.length_append, List.length_singleton]; omega, (e0 _).mpr ?_, _, rfl⟩
          · rw [upd_same, List.map_append]
            rfl
          · rw [if_pos g2]
            show _ = Kt.addN (if c ∈ zs8 then zs8 else zs8 ++ [c]) []
            rw [if_neg g1]
            rfl
        refine ⟨F0, zs8.map iW, rfl, .inl (SqL.of hF8), rfl, flat_W zs8, ?_⟩
        rw [if_pos rfl, inV_W]
        refine ⟨_, rfl, ?_⟩
        by_cases c1 : c ∈ zs8
        · rw [decide_eq_true c1, if_neg (by decide)]
          exact skip (.inl c1)
        rw [decide_eq_false c1, if_pos (by decide)]
        refine ⟨_, get_c d8 c, ?_⟩
        rw [Option.isSome_map]
        by_cases q1 : (look cs c).isSome = false
        · rw [if_pos q1]
          refine grow c1 ?_
          unfold knB
          rw [show (look cs c).isNone = true by rw [Option.isNone_iff_eq_none]; exact Option.not_isSome_iff_eq_none.mp (by rw [q1]; decide), Bool.true_or]
        rw [if_neg q1]
        have n1 : (look cs c).isNone = false := by
          cases z : look cs c with
          | none => rw [z] at q1; exact absurd rfl q1
          | some v => rfl
        refine ⟨D, (ns.map (·.2)).map iW, rfl, .inl (SqL.of D8), rfl, flat_W _, ?_⟩
        rw [if_neg (by decide), inV_W]
        refine ⟨_, rfl, ?_⟩
        by_cases q2 : c ∈ ns.map (·.2)
        · rw [decide_eq_true q2, if_pos rfl]
          refine grow c1 ?_
          unfold knB
          rw [decide_eq_true q2, Bool.true_or, Bool.or_true]
        rw [decide_eq_false q2, if_neg (by decide)]
        obtain ⟨m, em, em2⟩ : ∃ m : Nat, (((look ds c).map fun v : Nat => L2.V.int v).getD (.int 0)) = .int (m : Nat) ∧ (look ds c).getD 0 = m := by
          cases look ds c with
          | none => exact ⟨0, rfl, rfl⟩
          | some m => exact ⟨m, rfl, rfl⟩
        have ek : knB cs ns R c = decide (1 < m) := by
          unfold knB
          rw [n1, decide_eq_false q2, ← cI c, em2]
          rfl
        refine ⟨.inl ⟨_, .inl I8⟩, _, get_c I8 c, _, em, ?_⟩
        by_cases q3 : 1 < m
        · rw [if_pos (by omega)]
          exact grow c1 (by rw [ek, decide_eq_true q3])
        · rw [if_neg (by omega)]
          exact skip (.inr (by rw [ek, decide_eq_false q3]))
      rintro σ H8 ⟨b8, zs8, y11, hF8, ⟨lz8, ez8⟩, rfl⟩
      rw [List.length_map, List.take_length] at ez8
      rw [List.length_map, List.length_append, List.length_singleton] at lz8
      exact ⟨(b5.trans (But.same s57)).trans b8, zs8, hF8, (by rw [Nat.add_mul]; omega), (by unfold knF; rw [fold_take _ _ _ hn, wayOf_eq hw, ez8, ez]; rfl), _, _, _, _, _, _, rfl⟩
    rintro σ H5 ⟨b5, zs, z5, z6, z7, z9, z10, z11, hF5, ⟨lz, ez⟩, rfl⟩
    rw [lx, List.take_length] at ez
    refine hU _ _ ?_
    clear hU
    walk_at "rd"
    have c5 := b5 _ _ crF c4
    refine ⟨by omega, fun t0 ht0 => ?_⟩
    have st := same_new (o := HO.tup [.ref F0, .ref cr]) ht0
    refine k t0 F0 cr R _ (fun b o e => st _ _ (b5 _ _ (fun z => by rw [z, hF0] at e; cases e) (b04 _ _ e))) upd_same (st _ _ c5) hR eR (by rw [← ez]; exact st _ _ hF5) wR
end
end K10

set_option Elab.async false
set_option linter.all false
set_option maxRecDepth 100000
set_option maxHeartbeats 4000000
namespace K10
open PySem PySem.Spec PyProof.Rows L2 Rd Dt Dq Pk Ln En Sx Sy So Sr Lk Rq
local macro_rules | `(tactic| walk_at "rd") => `(tactic| try simp only [↓Lk.tLockE_, ↓Lk.tLock_, ↓Lk.tLc_keys, ↓Lk.tFor_keys, ↓Sy.tTupP_, ↓Sy.rTupP_, ↓Sy.rCatP_, ↓Sy.rSlP_, ↓Sy.rDictT_, ↓Sy.tDGet_, ↓Sy.tDGet1_, ↓Sy.tDIn_, ↓Sy.tDNotIn_, ↓Sy.tMeth_, ↓Sy.tMethKw_, ↓Sy.rSortedS_, ↓Sx.rIsT_, ↓En.tFor_enumT, ↓Sy.tFor_enumL, ↓Rv.tMakeKw_, ↓Prp.tProp_, ↓Lo.tBits_, ↓Lo.tJs_n, ↓Lo.tJs_c, ↓Lo.tFmt_, ↓Lo.gFld_, ↓Lo.tMake_, ↓Lo.rOwn_, ↓Rg.tFor_range3, ↓Rg.tLc_range3, ↓Rg.tLstC_, ↓Rg.tLc_rngV, ↓Le.rNeLE_, ↓Le.rEqLE_, ↓Ls.tLc_str, ↓Ls.sDPut_, ↓Rl.rReprL_, ↓Rl.tCallKS_, ↓Ob.tFld_, ↓Ob.sFld_, ↓tVar_, ↓tC_, ↓tM1, ↓tDNewK_, ↓tOp_, ↓tUn_, ↓rI_, ↓rI0_, ↓rU_, ↓eq_ii, ↓ne_ii, ↓eq_ss, ↓ne_ss, ↓eq_bb, ↓ne_bb, ↓tAndV_, ↓tOrV_, ↓tNotV_, ↓tIf_, ↓tTest_, ↓tB_, ↓tAnd_, ↓tOr_, ↓tNot_, ↓tChain_, ↓tNil_, ↓tCons_, ↓tTup_, ↓tLst_, ↓tCB_, ↓tCall_, ↓tSeq_, ↓tNext_, ↓tRet_, ↓tRetN_, ↓tDrop_, ↓tBreak_, ↓tNever_, ↓tIfS_, ↓tAsg_, ↓gName_, ↓gTup_, ↓gCons_, ↓gNil_, ↓gSub_, ↓tPar_, ↓tPar3_, ↓tSl_, ↓tNoPart_, ↓tPart_, ↓tBM_, ↓tFor_range1, ↓tFor_range2, ↓tFor_list, ↓tFor_tup, L2.start, List.headD_cons, List.headD_nil, List.tail_cons, List.map_cons, List.map_nil, List.length_cons, List.length_nil, List.replicate, List.append_nil, List.nil_append, List.cons_append, List.getElem?_cons_zero, List.getElem?_cons_succ, List.set_cons_zero, List.set_cons_succ, Option.some.injEq, V.int.injEq, V.bl.injEq, V.str.injEq, V.ref.injEq, exists_eq_left, exists_eq_left', exists_eq_right, exists_eq, exists_and_left, and_true, true_and, decide_eq_true_eq, Nat.reduceAdd, Nat.reduceSub, Nat.add_zero, Nat.zero_add, List.cons.injEq, Bool.not_eq_true', decide_eq_false_iff_not, eq_self, reduceCtorEq, Bool.false_eq_true, if_true, if_false, ite_true, ite_false, and_self, ↓tLc_range1, ↓tLc_range2, ↓tLc_list, ↓tLc_tup, ↓tYes_, wipe0, wipe1, ↓tCallS_, ↓rIxL_, ↓rIxT_, ↓rSlL_, ↓rCat_, ↓rSetL_, ↓rRep_, ↓rGcd_, ↓tCallK_, ↓gUnl_, ↓tRaise_, decide_true, decide_false, not_true_eq_false, not_false_eq_true, false_and, or_false, false_or, and_false, and_assoc, exists_const, forall_const, forall_eq'])


section
variable {P : Program} {w : World} {K : PySem.W.Frag} {mg : Str → Option Value} {base : Heap}
/-! ### knots of a store, plain -/
theorem mem_foldnw (cs : List (Nat × Nat)) (x : Nat) : ∀ (ns : List (Nat × Nat)) (R : List Nat), x ∈ ns.foldl (fun R n => R ++ nw R (wayOf cs n.2).1) R ↔ x ∈ R ∨ ∃ n ∈ ns, x ∈ (wayOf cs n.2).1
  | [], R => by simp
  | n :: ns, R => by
    rw [List.foldl_cons, mem_foldnw cs x ns, List.mem_append]
    unfold nw
    rw [List.mem_filter, Bool.not_eq_true', decide_eq_false_iff_not]
    constructor
    · rintro ((h | ⟨h, _⟩) | ⟨m, hm, h⟩)
      · exact .inl h
      · exact .inr ⟨n, List.mem_cons_self .., h⟩
      · exact .inr ⟨m, List.mem_cons_of_mem _ hm, h⟩
    · rintro (h | ⟨m, hm, h⟩)
      · exact .inl (.inl h)
      · rcases List.mem_cons.mp hm with rfl | hm
        · by_cases c : x ∈ R
          · exact .inl (.inl c)
          · exact .inl (.inr ⟨h, c⟩)
        · exact .inr ⟨m, hm, h⟩
theorem mem_come {cs ns : List (Nat × Nat)} {x : Nat} : x ∈ comeF cs ns ↔ ∃ n ∈ ns, x ∈ (wayOf cs n.2).1 := by
  unfold comeF
  rw [mem_foldnw]
  simp
theorem mem_foldkn (cs : List (Nat × Nat)) (kn : Nat → Bool) (x : Nat) : ∀ (ns : List (Nat × Nat)) (F : List Nat), x ∈ ns.foldl (fun F n => Kt.addN F (((wayOf cs n.2).1 ++ [(wayOf cs n.2).2]).filter kn)) F ↔ x ∈ F ∨ ∃ n ∈ ns, x ∈ ((wayOf cs n.2).1 ++ [(wayOf cs n.2).2]).filter kn
  | [], F => by simp
  | n :: ns, F => by
    rw [List.foldl_cons, mem_foldkn cs kn x ns, Kt.addN_mem]
    constructor
    · rintro ((h | h) | ⟨m, hm, h⟩)
      · exact .inl h
      · exact .inr ⟨n, List.mem_cons_self .., h⟩
      · exact .inr ⟨m, List.mem_cons_of_mem _ hm, h⟩
    · rintro (h | ⟨m, hm, h⟩)
      · exact .inl (.inl h)
      · rcases List.mem_cons.mp hm with rfl | hm
        · exact .inl (.inr h)
        · exact .inr ⟨m, hm, h⟩
theorem mem_kn {cs ns : List (Nat × Nat)} {kn : Nat → Bool} {x : Nat} : x ∈ knF cs ns kn ↔ ∃ n ∈ ns, x ∈ (wayOf cs n.2).1 ++ [(wayOf cs n.2).2] ∧ kn x = true := by
  unfold knF
  rw [mem_foldkn]
  simp only [List.not_mem_nil, false_or, List.mem_filter]
theorem kn_nodup {cs ns : List (Nat × Nat)} {kn : Nat → Bool} : (knF cs ns kn).Nodup := by
  unfold knF
  have : ∀ (ns : List (Nat × Nat)) (F : List Nat), F.Nodup → (ns.foldl (fun F n => Kt.addN F (((wayOf cs n.2).1 ++ [(wayOf cs n.2).2]).filter kn)) F).Nodup := fun ns => by
    induction ns with
    | nil => exact fun F h => h
    | cons n ns ih => exact fun F h => ih _ (Kt.addN_nodup h)
  exact this ns [] List.nodup_nil
theorem count_two {cs : List (Nat × Nat)} {e y z : Nat} (n : y ≠ z) (hy : look cs y = some e) (hz : look cs z = some e) : ∀ {R : List Nat}, R.Nodup → y ∈ R → z ∈ R → 1 < (R.filterMap (look cs)).count e := fun {R} nd my mz => by
  have one : ∀ {R : List Nat} {y : Nat}, look cs y = some e → y ∈ R → 1 ≤ (R.filterMap (look cs)).count e := fun {R y} hy my =>
    List.count_pos_iff.mpr (List.mem_filterMap.mpr ⟨y, my, hy⟩)
  obtain ⟨A, B, rfl⟩ := List.append_of_mem my
  rw [List.filterMap_append, List.filterMap_cons, hy, List.count_append, List.count_cons_self]
  rcases List.mem_append.mp mz with m | m
  · have := one hz m
    omega
  · rcases List.mem_cons.mp m with m | m
    · exact absurd m.symm n
    · have := one hz m
      omega
/-- the end of a way is a knot -/
theorem kn_end {cs ns : List (Nat × Nat)} {R W : List Nat} {n : Nat × Nat} {e : Nat} (hn : n ∈ ns) (w : Way cs n.2 W e) (nd : R.Nodup) (hR : ∀ x ∈ W, x ∈ R) : knB cs ns R e = true := by
  unfold knB
  cases k : look cs e with
  | none => rfl
  | some v =>
    by_cases h : e ∈ ns.map (·.2)
    · rw [decide_eq_true h]; simp
    have ke : (look cs e).isSome = true := by rw [k]; rfl
    obtain ⟨A, B, rfl⟩ := List.append_of_mem (w.fin ke)
    obtain ⟨m, c1, c2⟩ := w.ch.cut
    obtain rfl := c2.hd
    have nA : A ≠ [] := fun z => by
      subst z
      cases c1
      exact h (List.mem_map.mpr ⟨n, hn, rfl⟩)
    have lastOf : ∀ {p q : Nat} {U : List Nat}, U ≠ [] → Ch cs p U q → ∃ y ∈ U, look cs y = some q := fun {p q U} => by
      induction U generalizing p with
      | nil => exact fun z => absurd rfl z
      | cons x U ih =>
        intro _ c
        obtain ⟨rfl, y, hy, c'⟩ := Kt.ch_cons c
        cases U with
        | nil =>
          cases c'
          exact ⟨x, List.mem_cons_self .., hy⟩
        | cons u U =>
          obtain ⟨y', my, e'⟩ := ih (by simp) c'
          exact ⟨y', List.mem_cons_of_mem _ my, e'⟩
    obtain ⟨y, my, hy⟩ := lastOf nA c1
    obtain ⟨z, mz, hz⟩ := lastOf (by simp) c2
    have ne : y ≠ z := fun q => (List.nodup_append.mp w.nd).2.2 y my z mz q
    have := count_two ne hy hz nd (hR y (List.mem_append_left _ my)) (hR z (List.mem_append_right _ mz))
    unfold intoL
    rw [decide_eq_true this]
    simp
end
end K10

set_option Elab.async false
set_option linter.all false
set_option maxRecDepth 100000
set_option maxHeartbeats 4000000
namespace K10
open PySem PySem.Spec PyProof.Rows L2 Rd Dt Dq Pk Ln En Sx Sy So Sr Lk Rq
local macro_rules | `(tactic| walk_at "rd") => `(tactic| try simp only [↓Lk.tLockE_, ↓Lk.tLock_, ↓Lk.tLc_keys, ↓Lk.tFor_keys, ↓Sy.tTupP_, ↓Sy.rTupP_, ↓Sy.rCatP_, ↓Sy.rSlP_, ↓Sy.rDictT_, ↓Sy.tDGet_, ↓Sy.tDGet1_, ↓Sy.tDIn_, ↓Sy.tDNotIn_, ↓Sy.tMeth_, ↓Sy.tMethKw_, ↓Sy.rSortedS_, ↓Sx.rIsT_, ↓En.tFor_enumT, ↓Sy.tFor_enumL, ↓Rv.tMakeKw_, ↓Prp.tProp_, ↓Lo.tBits_, ↓Lo.tJs_n, ↓Lo.tJs_c, ↓Lo.tFmt_, ↓Lo.gFld_, ↓Lo.tMake_, ↓Lo.rOwn_, ↓Rg.tFor_range3, ↓Rg.tLc_range3, ↓Rg.tLstC_, ↓Rg.tLc_rngV, ↓Le.rNeLE_, ↓Le.rEqLE_, ↓Ls.tLc_str, ↓Ls.sDPut_, ↓Rl.rReprL_, ↓Rl.tCallKS_, ↓Ob.tFld_, ↓Ob.sFld_, ↓tVar_, ↓tC_, ↓tM1, ↓tDNewK_, ↓tOp_, ↓tUn_, ↓rI_, ↓rI0_, ↓rU_, ↓eq_ii, ↓ne_ii, ↓eq_ss, ↓ne_ss, ↓eq_bb, ↓ne_bb, ↓tAndV_, ↓tOrV_, ↓tNotV_, ↓tIf_, ↓tTest_, ↓tB_, ↓tAnd_, ↓tOr_, ↓tNot_, ↓tChain_, ↓tNil_, ↓tCons_, ↓tTup_, ↓tLst_, ↓tCB_, ↓tCall_, ↓tSeq_, ↓tNext_, ↓tRet_, ↓tRetN_, ↓tDrop_, ↓tBreak_, ↓tNever_, ↓tIfS_, ↓tAsg_, ↓gName_, ↓gTup_, ↓gCons_, ↓gNil_, ↓gSub_, ↓tPar_, ↓tPar3_, ↓tSl_, ↓tNoPart_, ↓tPart_, ↓tBM_, ↓tFor_range1, ↓tFor_range2, ↓tFor_list, ↓tFor_tup, L2.start, List.headD_cons, List.headD_nil, List.tail_cons, List.map_cons, List.map_nil, List.length_cons, List.length_nil, List.replicate, List.append_nil, List.nil_append, List.cons_append, List.getElem?_cons_zero, List.getElem?_cons_succ, List.set_cons_zero, List.set_cons_succ, Option.some.injEq, V.int.injEq, V.bl.injEq, V.str.injEq, V.ref.injEq, exists_eq_left, exists_eq_left', exists_eq_right, exists_eq, exists_and_left, and_true, true_and, decide_eq_true_eq, Nat.reduceAdd, Nat.reduceSub, Nat.add_zero, Nat.zero_add, List.cons.injEq, Bool.not_eq_true', decide_eq_false_iff_not, eq_self, reduceCtorEq, Bool.false_eq_true, if_true, if_false, ite_true, ite_false, and_self, ↓tLc_range1, ↓tLc_range2, ↓tLc_list, ↓tLc_tup, ↓tYes_, wipe0, wipe1, ↓tCallS_, ↓rIxL_, ↓rIxT_, ↓rSlL_, ↓rCat_, ↓rSetL_, ↓rRep_, ↓rGcd_, ↓tCallK_, ↓gUnl_, ↓tRaise_, decide_true, decide_false, not_true_eq_false, not_false_eq_true, false_and, or_false, false_or, and_false, and_assoc, exists_const, forall_const, forall_eq'])


section
variable {P : Program} {w : World} {K : PySem.W.Frag} {mg : Str → Option Value} {base : Heap}
/-! ### stretches, plain -/
theorem chain_first {cs : List (Nat × Nat)} {kn : Nat → Bool} {e : Nat} (ke : kn e = true) : ∀ {B : List Nat} {y : Nat}, Ch cs y B e → ∃ U V q, B ++ [e] = U ++ q :: V ∧ Ch cs y U q ∧ kn q = true ∧ ∀ x ∈ U, kn x = false
  | [], y, c => by
    cases c
    exact ⟨[], [], e, rfl, .nil e, ke, fun _ z => nomatch z⟩
  | x :: B, y, c => by
    obtain ⟨rfl, z, hz, c2⟩ := Kt.ch_cons c
    by_cases k : kn x = true
    · exact ⟨[], B ++ [e], x, rfl, .nil x, k, fun _ z => nomatch z⟩
    · obtain ⟨U, V, q, e1, c3, kq, hU⟩ := chain_first ke c2
      exact ⟨x :: U, V, q, by rw [List.cons_append, e1]; rfl, .cons hz c3, kq, fun u hu => by
        rcases List.mem_cons.mp hu with rfl | hu
        · exact Bool.eq_false_iff.mpr k
        · exact hU u hu⟩
/-- the stretch of a cell knot -/
theorem str_ex {cs ns : List (Nat × Nat)} {R : List Nat} (hw : ∀ n ∈ ns, ∃ W e, Way cs n.2 W e) (nd : R.Nodup) (eR : R = comeF cs ns) {p y : Nat} (hp : p ∈ knF cs ns (knB cs ns R)) (hy : look cs p = some y) :
    ∃ U q, Ch cs y U q ∧ q ∈ knF cs ns (knB cs ns R) ∧ (∀ x ∈ U, x ∉ knF cs ns (knB cs ns R)) ∧ (p :: U).Nodup ∧ (∀ x ∈ p :: U, x ∈ R) ∧ Kt.nxt cs (knB cs ns R) (cs.length + 1) p = some q := by
  obtain ⟨n, hn, m, kp⟩ := mem_kn.mp hp
  obtain ⟨W, e, w⟩ := hw n hn
  rw [wayOf_eq w] at m
  have m : p ∈ W ++ [e] := m
  have hR : ∀ x ∈ W, x ∈ R := fun x hx => by
    rw [eR, mem_come]
    exact ⟨n, hn, by rw [wayOf_eq w]; exact hx⟩
  have ke := kn_end hn w nd hR
  have pW : p ∈ W := by
    rcases List.mem_append.mp m with m | m
    · exact m
    · rw [List.mem_singleton.mp m]
      exact w.fin (by rw [← List.mem_singleton.mp m, hy]; rfl)
  have wl := few w.nd w.ch.key
  have wnd := w.nd
  obtain ⟨A, B, rfl⟩ := List.append_of_mem pW
  obtain ⟨mm, c1, c2⟩ := w.ch.cut
  obtain rfl := c2.hd
  obtain ⟨_, y', hy', c3⟩ := Kt.ch_cons c2
  rw [hy] at hy'
  cases hy'
  obtain ⟨U, V, q, e1, c4, kq, hU⟩ := chain_first ke c3
  have qin : q ∈ (A ++ p :: B) ++ [e] := by
    rw [List.append_assoc, List.cons_append, e1]
    exact List.mem_append_right _ (List.mem_cons_of_mem _ (List.mem_append_right _ (List.mem_cons_self ..)))
  have UB : ∀ x ∈ U, x ∈ B := fun x hx => by
    have k := c4.key x hx
    have : U.length ≤ B.length := by
      have := congrArg List.length e1
      simp only [List.length_append, List.length_cons, List.length_nil] at this
      omega
    obtain ⟨V', ev, _⟩ := c4.pre c3 this
    rw [ev]
    exact List.mem_append_left _ hx
  have U2 : U.length ≤ B.length := by
    have := congrArg List.length e1
    simp only [List.length_append, List.length_cons, List.length_nil] at this
    omega
  obtain ⟨V', ev, _⟩ := c4.pre c3 U2
  have pUn : (p :: U).Nodup := by
    have := (List.nodup_append.mp wnd).2.1
    rw [ev] at this
    exact this.sublist (List.Sublist.cons₂ _ (List.sublist_append_left _ _))
  refine ⟨U, q, c4, mem_kn.mpr ⟨n, hn, by rw [wayOf_eq w]; exact qin, kq⟩, fun x hx z => ?_, pUn, fun x hx => ?_, ?_⟩
  · have := (mem_kn.mp z)
    obtain ⟨_, _, _, k⟩ := this
    rw [hU x hx] at k
    cases k
  · refine hR x (List.mem_append_right _ ?_)
    rcases List.mem_cons.mp hx with rfl | hx
    · exact List.mem_cons_self ..
    · exact List.mem_cons_of_mem _ (UB x hx)
  · unfold Kt.nxt
    rw [hy]
    show Kt.fkF cs (knB cs ns R) (cs.length + 1) y = some q
    rw [Kt.fk_head kq c4 (by
      rw [List.length_append, List.length_cons] at wl
      omega), List.filter_append, List.filter_eq_nil_iff.mpr (fun x hx => by rw [hU x hx]; decide), List.nil_append, List.filter_cons, if_pos kq]
    rfl
theorem chain_uniq {cs : List (Nat × Nat)} {F U U' : List Nat} {y q q' : Nat} (c : Ch cs y U q) (c' : Ch cs y U' q') (hq : q ∈ F) (hq' : q' ∈ F) (hU : ∀ x ∈ U, x ∉ F) (hU' : ∀ x ∈ U', x ∉ F) : U = U' ∧ q = q' := by
  have one : ∀ {U U' : List Nat} {q q' : Nat}, Ch cs y U q → Ch cs y U' q' → q ∈ F → (∀ x ∈ U', x ∉ F) → U.length ≤ U'.length → U = U' ∧ q = q' := fun {U U' q q'} c c' hq hU' l => by
    obtain ⟨V, ev, c2⟩ := c.pre c' l
    cases V with
    | nil =>
      cases c2
      exact ⟨by rw [ev, List.append_nil], rfl⟩
    | cons x V =>
      obtain rfl := c2.hd
      exact absurd hq (hU' x (by rw [ev]; exact List.mem_append_right _ (List.mem_cons_self ..)))
  rcases Nat.le_total U.length U'.length with l | l
  · exact one c c' hq hU' l
  · have := one c' c hq' hU l
    exact ⟨this.1.symm, this.2.symm⟩
open Classical in
/-- the cells of a knot's stretch -/
noncomputable def lnOf (cs : List (Nat × Nat)) (F : List Nat) (p : Nat) : List Nat :=
  if h : ∃ w : List Nat × Nat × Nat, look cs p = some w.2.1 ∧ Ch cs w.2.1 w.1 w.2.2 ∧ w.2.2 ∈ F ∧ ∀ x ∈ w.1, x ∉ F then p :: (choose h).1 else [p]
theorem lnOf_eq {cs : List (Nat × Nat)} {F U : List Nat} {p y q : Nat} (hy : look cs p = some y) (c : Ch cs y U q) (hq : q ∈ F) (hU : ∀ x ∈ U, x ∉ F) : lnOf cs F p = p :: U := by
  have h : ∃ w : List Nat × Nat × Nat, look cs p = some w.2.1 ∧ Ch cs w.2.1 w.1 w.2.2 ∧ w.2.2 ∈ F ∧ ∀ x ∈ w.1, x ∉ F := ⟨(U, y, q), hy, c, hq, hU⟩
  unfold lnOf
  rw [dif_pos h]
  have key : ∀ w : List Nat × Nat × Nat, (look cs p = some w.2.1 ∧ Ch cs w.2.1 w.1 w.2.2 ∧ w.2.2 ∈ F ∧ ∀ x ∈ w.1, x ∉ F) → w.1 = U := fun w ⟨h1, h2, h3, h4⟩ => by
    have e : y = w.2.1 := Option.some.inj (hy.symm.trans h1)
    rw [← e] at h2
    exact (chain_uniq h2 c h3 hq h4 hU).1
  rw [key _ (Classical.choose_spec h)]
end
end K10

set_option Elab.async false
set_option linter.all false
set_option maxRecDepth 100000
set_option maxHeartbeats 2000000
/-! texts of any kind, cut and joined -/
namespace Sp
open PySem PySem.Spec PyProof.Rows L2 Rd Dt Pk TL
structure Bt (s : Str) (n : Nat) : Prop where
  l : s.length ≤ n
  c : ∀ c ∈ tl s, c < 0x110000
theorem Bt.mono {s : Str} {n m : Nat} (h : Bt s n) (e : n ≤ m) : Bt s m := ⟨Nat.le_trans h.l e, h.c⟩
theorem Bt.app {a b : Str} {n m : Nat} (h : Bt a n) (g : Bt b m) : Bt (a ++ b) (n + m) := ⟨by rw [Str.length_append]; exact Nat.add_le_add h.l g.l, fun c hc => by
  rw [tl_append] at hc
  rcases List.mem_append.mp hc with z | z
  · exact h.c c z
  · exact g.c c z⟩
theorem Bt.sub {s w : Str} {n : Nat} (h : Bt s n) (hl : w.length ≤ s.length) (hc : ∀ c ∈ tl w, c ∈ tl s) : Bt w n := ⟨Nat.le_trans hl h.l, fun c q => h.c c (hc c q)⟩
theorem Bt.cut {s : Str} {n : Nat} (h : Bt s n) (lo hi : Option Int) : Bt (cutS s lo hi) n := h.sub (cutS_length _ _ _) fun c hc => by
  have : c ∈ (List.take _ (List.drop _ (tl s))) := hc
  exact List.mem_of_mem_drop (List.mem_of_mem_take this)
theorem splk (k : Nat) : ∀ (l acc : List Nat), spl [k] 0 acc l ≠ [] ∧ ((spl [k] 0 acc l).map (·.length)).sum + (spl [k] 0 acc l).length ≤ acc.length + l.length + 1 ∧ ∀ p ∈ spl [k] 0 acc l, ∀ c ∈ p, c ∈ acc ∨ c ∈ l
  | [], acc => by
    rw [spl_nil]
    refine ⟨by simp, by simp, fun p hp => ?_⟩
    rw [List.mem_singleton.mp hp]
    exact fun c hc => .inl hc
  | x :: r, acc => by
    cases h : pre [k] (x :: r) with
    | true =>
      rw [spl_hit h]
      obtain ⟨_, i1, i2⟩ := splk k r []
      show (acc :: spl [k] 0 [] r) ≠ [] ∧ ((acc :: spl [k] 0 [] r).map (·.length)).sum + (acc :: spl [k] 0 [] r).length ≤ _ ∧ _
      refine ⟨by simp, by rw [List.map_cons, List.sum_cons, List.length_cons, List.length_cons]; rw [List.length_nil] at i1; omega, fun p hp => ?_⟩
      rcases List.mem_cons.mp hp with rfl | hp
      · exact fun c hc => .inl hc
      · intro c hc
        rcases i2 p hp c hc with z | z
        · cases z
        · exact .inr (List.mem_cons_of_mem _ z)
    | false =>
      rw [spl_miss h]
      obtain ⟨i0, i1, i2⟩ := splk k r (acc ++ [x])
      refine ⟨i0, by rw [List.length_append] at i1; simp only [List.length_cons, List.length_nil] at i1 ⊢; omega, fun p hp => ?_⟩
      intro c hc
      rcases i2 p hp c hc with z | z
      · rcases List.mem_append.mp z with z | z
        · exact .inl z
        · rw [List.mem_singleton.mp z]; exact .inr List.mem_cons_self
      · exact .inr (List.mem_cons_of_mem _ z)
def jl (ws : List Str) : Nat := (ws.map (·.length)).sum + ws.length
theorem split_k (s : Str) (k : Nat) (hk : k < 256) : Txt.split s ⟨#[k]⟩ ≠ [] ∧ jl (Txt.split s ⟨#[k]⟩) ≤ s.length + 1 ∧ ∀ w ∈ Txt.split s ⟨#[k]⟩, ∀ c ∈ tl w, c ∈ tl s := by
  have e := split_spl s ⟨#[k]⟩ (by simp [tl]) (kind_ok (by simpa using hk))
  have e32 : tl (⟨#[k]⟩ : Str) = [k] := rfl
  rw [e32] at e
  obtain ⟨i0, i1, i2⟩ := splk k (tl s) []
  rw [← e] at i0 i1 i2
  refine ⟨fun z => i0 (by rw [z]; rfl), ?_, fun w hw c hc => ?_⟩
  · unfold jl
    rw [List.map_map, List.length_map] at i1
    rw [len_tl]
    have ef : ((Txt.split s ⟨#[k]⟩).map (·.length)) = ((Txt.split s ⟨#[k]⟩).map ((fun x : List Nat => x.length) ∘ tl)) := List.map_congr_left fun w _ => len_tl w
    rw [ef]
    simpa using i1
  · rcases i2 (tl w) (List.mem_map_of_mem hw) c hc with z | z
    · cases z
    · exact z
theorem join_mem {sep : Str} : ∀ {ws : List Str} {c : Nat}, c ∈ tl (Str.join sep ws) → c ∈ tl sep ∨ ∃ w ∈ ws, c ∈ tl w
  | [], c, h => by cases (show c ∈ ([] : List Nat) from h)
  | [x], c, h => .inr ⟨x, List.mem_cons_self, h⟩
  | x :: y :: r, c, h => by
    have h' : c ∈ tl (x ++ sep ++ Str.join sep (y :: r)) := h
    rw [tl_append, tl_append] at h'
    rcases List.mem_append.mp h' with z | z
    · rcases List.mem_append.mp z with z | z
      · exact .inr ⟨x, List.mem_cons_self, z⟩
      · exact .inl z
    · rcases join_mem z with z | ⟨w, hw, z⟩
      · exact .inl z
      · exact .inr ⟨w, List.mem_cons_of_mem _ hw, z⟩
def btB (m : Nat) (s : Str) : Bool := decide (s.length ≤ m) && PyData.strOk s
theorem Bt.of {m : Nat} {s : Str} (h : btB m s = true) : Bt s m := by
  obtain ⟨h1, h2⟩ := Bool.and_eq_true_iff.mp h
  refine ⟨of_decide_eq_true h1, fun c hc => ?_⟩
  unfold PyData.strOk at h2
  rw [← Array.all_toList, List.all_eq_true] at h2
  exact of_decide_eq_true (h2 c hc)
theorem bt_all {m : Nat} {ss : List Str} (h : ss.all (btB m) = true) : ∀ s ∈ ss, Bt s m := fun s hs => Bt.of (List.all_eq_true.mp h s hs)
theorem ixn {n : Nat} {i : Int} (h0 : 0 ≤ i) (h : i.toNat < n) : ixN n i = some i.toNat := by
  unfold ixN
  rw [if_pos h0, if_pos (by omega)]
theorem erase_map (f : Str → V) : ∀ (ws : List Str) (k : Nat), (ws.map f).eraseIdx k = (ws.eraseIdx k).map f
  | [], _ => rfl
  | _ :: _, 0 => rfl
  | w :: ws, k + 1 => by
    show f w :: (ws.map f).eraseIdx k = f w :: (ws.eraseIdx k).map f
    rw [erase_map f ws k]
theorem jl_cons (w : Str) (ws : List Str) : jl (w :: ws) = w.length + 1 + jl ws := by
  unfold jl
  rw [List.map_cons, List.sum_cons, List.length_cons]
  omega
theorem jl_app (a b : List Str) : jl (a ++ b) = jl a + jl b := by
  unfold jl
  rw [List.map_append, List.sum_append, List.length_append]
  omega
theorem jl_erase : ∀ (ws : List Str) (k : Nat), jl (ws.eraseIdx k) ≤ jl ws
  | [], _ => Nat.le_refl _
  | w :: ws, 0 => by
    show jl ws ≤ _
    rw [jl_cons]; omega
  | w :: ws, k + 1 => by
    show jl (w :: ws.eraseIdx k) ≤ _
    rw [jl_cons, jl_cons]
    have := jl_erase ws k
    omega
theorem jl_set (t : Str) : ∀ (ws : List Str) (k : Nat), jl (ws.set k t) ≤ jl ws + t.length
  | [], _ => by simp [jl]
  | w :: ws, 0 => by
    show jl (t :: ws) ≤ _
    rw [jl_cons, jl_cons]; omega
  | w :: ws, k + 1 => by
    show jl (w :: ws.set k t) ≤ _
    rw [jl_cons, jl_cons]
    have := jl_set t ws k
    omega
theorem splk_len (k : Nat) : ∀ (l acc : List Nat), (spl [k] 0 acc l).length = l.count k + 1
  | [], acc => by rw [spl_nil]; rfl
  | x :: r, acc => by
    cases h : pre [k] (x :: r) with
    | true =>
      have e : x = k := by
        simpa [pre] using h
      rw [spl_hit h]
      show (acc :: spl [k] 0 [] r).length = _
      rw [List.length_cons, splk_len k r [], e, List.count_cons_self]
    | false =>
      have e : x ≠ k := fun z => by
        rw [z] at h
        simp [pre] at h
      rw [spl_miss h, splk_len k r (acc ++ [x]), List.count_cons_of_ne e]
theorem splk_no (k : Nat) : ∀ (l acc : List Nat), k ∉ acc → ∀ p ∈ spl [k] 0 acc l, k ∉ p
  | [], acc, ha, p, hp => by
    rw [spl_nil] at hp
    rw [List.mem_singleton.mp hp]
    exact ha
  | x :: r, acc, ha, p, hp => by
    cases h : pre [k] (x :: r) with
    | true =>
      rw [spl_hit h] at hp
      rcases List.mem_cons.mp hp with rfl | hp
      · exact ha
      · exact splk_no k r [] (by simp) p hp
    | false =>
      have e : x ≠ k := fun z => by
        rw [z] at h
        simp [pre] at h
      rw [spl_miss h] at hp
      refine splk_no k r (acc ++ [x]) (fun z => ?_) p hp
      rcases List.mem_append.mp z with z | z
      · exact ha z
      · exact e (List.mem_singleton.mp z).symm
theorem split_cnt (s : Str) (k : Nat) (hk : k < 256) : (Txt.split s ⟨#[k]⟩).length = (tl s).count k + 1 ∧ ∀ w ∈ Txt.split s ⟨#[k]⟩, k ∉ tl w := by
  have e := split_spl s ⟨#[k]⟩ (by simp [tl]) (kind_ok (by simpa using hk))
  have e32 : tl (⟨#[k]⟩ : Str) = [k] := rfl
  rw [e32] at e
  have h1 := splk_len k (tl s) []
  have h2 := splk_no k (tl s) [] (by simp)
  rw [← e] at h1 h2
  rw [List.length_map] at h1
  exact ⟨h1, fun w hw => h2 _ (List.mem_map_of_mem hw)⟩
theorem join_cnt {k : Nat} {sep : Str} (e : tl sep = [k]) : ∀ {ws : List Str}, (∀ w ∈ ws, k ∉ tl w) → (tl (Str.join sep ws)).count k = ws.length - 1
  | [], _ => rfl
  | [x], h => by
    show (tl x).count k = 0
    exact List.count_eq_zero.mpr (h x (List.mem_cons_self ..))
  | x :: y :: r, h => by
    show (tl (x ++ sep ++ Str.join sep (y :: r))).count k = _
    rw [tl_append, tl_append, List.count_append, List.count_append, e, join_cnt e (ws := y :: r) (fun w hw => h w (List.mem_cons_of_mem _ hw)), List.count_eq_zero.mpr (h x (List.mem_cons_self ..))]
    simp only [List.length_cons, List.count_cons_self, List.count_nil]
    omega
theorem mem_sum_le {α : Type} (f : α → Nat) : ∀ (l : List α) (x : α), x ∈ l → f x ≤ (l.map f).sum
  | y :: l, x, h => by
    rw [List.map_cons, List.sum_cons]
    rcases List.mem_cons.mp h with rfl | h
    · omega
    · have := mem_sum_le f l x h
      omega
/-- a text of bounds, with a bound of its blanks -/
structure Bc (s : Str) (n m : Nat) : Prop where
  b : Bt s n
  k : (tl s).count 32 ≤ m
theorem Bc.mono {s : Str} {n m n' m' : Nat} (h : Bc s n m) (e : n ≤ n') (f : m ≤ m') : Bc s n' m' := ⟨h.b.mono e, Nat.le_trans h.k f⟩
theorem cut_cnt (s : Str) (lo hi : Option Int) : (tl (cutS s lo hi)).count 32 ≤ (tl s).count 32 := by
  have h : tl (cutS s lo hi) = (List.take _ (List.drop _ (tl s))) := rfl
  rw [h]
  exact ((List.take_sublist _ _).trans (List.drop_sublist _ _)).count_le 32
theorem cut2_cnt (s : Str) (a b : Int) (h0 : 0 ≤ a) (h : a ≤ b) : (tl (cutS s none (some a))).count 32 + (tl (cutS s (some b) none)).count 32 ≤ (tl s).count 32 := by
  have h1 : tl (cutS s none (some a)) = ((tl s).drop (HT.sIx s.length 0 none)).take (HT.sIx s.length s.length (some a) - HT.sIx s.length 0 none) := rfl
  have h2 : tl (cutS s (some b) none) = ((tl s).drop (HT.sIx s.length 0 (some b))).take (HT.sIx s.length s.length none - HT.sIx s.length 0 (some b)) := rfl
  have e0 : HT.sIx s.length 0 none = 0 := rfl
  have le : HT.sIx s.length s.length (some a) ≤ HT.sIx s.length 0 (some b) := by
    show (if a < 0 then (a + (s.length : Int)).toNat else min a.toNat s.length) ≤ (if b < 0 then (b + (s.length : Int)).toNat else min b.toNat s.length)
    rw [if_neg (by omega), if_neg (by omega)]
    omega
  rw [h1, h2, e0, List.drop_zero, Nat.sub_zero]
  generalize HT.sIx s.length s.length (some a) = i at le ⊢
  generalize HT.sIx s.length 0 (some b) = j at le ⊢
  have q1 : (List.take (HT.sIx s.length s.length none - j) (List.drop j (tl s))).count 32 ≤ (List.drop j (tl s)).count 32 := (List.take_sublist _ _).count_le 32
  have q2 : (List.drop j (tl s)).count 32 ≤ (List.drop i (tl s)).count 32 := by
    rw [show j = i + (j - i) from by omega, ← List.drop_drop]
    exact (List.drop_sublist _ _).count_le 32
  have q3 : (List.take i (tl s)).count 32 + (List.drop i (tl s)).count 32 = (tl s).count 32 := by
    rw [← List.count_append, List.take_append_drop]
  omega
theorem bc_mid {s x : Str} {n m : Nat} {a b : Int} (h : Bc s n m) (hx : Bt x 1) (h0 : 0 ≤ a) (hab : a ≤ b) : Bc (cutS s none (some a) ++ x ++ cutS s (some b) none) (3 * n + 4) (m + 1) := by
  refine ⟨(((h.b.cut none (some a)).app hx).app (h.b.cut (some b) none)).mono (by omega), ?_⟩
  rw [tl_append, tl_append, List.count_append, List.count_append]
  have h1 := cut2_cnt s a b h0 hab
  have h2 : (tl x).count 32 ≤ 1 := by
    have := List.count_le_length (a := 32) (l := tl x)
    have l1 := hx.l
    rw [len_tl] at l1
    omega
  have := h.k
  omega
theorem bc_out {s : Str} {n m : Nat} {a b : Int} (h : Bc s n m) (h0 : 0 ≤ a) (hab : a ≤ b) : Bc (cutS s none (some a) ++ cutS s (some b) none) (3 * n + 4) (m + 1) := by
  refine ⟨((h.b.cut none (some a)).app (h.b.cut (some b) none)).mono (by omega), ?_⟩
  rw [tl_append, List.count_append]
  have h1 := cut2_cnt s a b h0 hab
  have := h.k
  omega
theorem bc_join {ws : List Str} {n m : Nat} (hc : ∀ w ∈ ws, 32 ∉ tl w ∧ ∀ c ∈ tl w, c < 0x110000) (hl : jl ws ≤ n) (hm : ws.length ≤ m + 1) : Bc (Txt.join " " ws) n m := by
  have e1 : (" " : Str).length = 1 := by decide
  have e2 : tl (" " : Str) = [32] := by decide +kernel
  refine ⟨⟨?_, fun c h => ?_⟩, ?_⟩
  · rw [TL.join_eq]
    have := StrLaws.join_length_le " " ws
    rw [e1, Nat.mul_one] at this
    unfold jl at hl
    omega
  · rw [TL.join_eq] at h
    rcases join_mem h with q | ⟨w, hw, q⟩
    · rw [e2, List.mem_singleton] at q
      rw [q]; decide
    · exact (hc w hw).2 c q
  · rw [TL.join_eq, join_cnt e2 fun w hw => (hc w hw).1]
    omega
theorem cut_to {xs : List V} {i : Int} (h : 0 ≤ i ∧ i ≤ xs.length) : cutV xs none (some i) = xs.take i.toNat := by
  obtain ⟨j, rfl⟩ : ∃ j : Nat, i = j := ⟨i.toNat, by omega⟩
  unfold cutV
  rw [HT.sIx_nat, HT.sIx_none, List.drop_zero, Nat.sub_zero, Nat.min_eq_left (by omega), Int.toNat_natCast]
theorem cut_from {xs : List V} {i : Int} (h : 0 ≤ i ∧ i ≤ xs.length) : cutV xs (some i) none = xs.drop i.toNat := by
  obtain ⟨j, rfl⟩ : ∃ j : Nat, i = j := ⟨i.toNat, by omega⟩
  unfold cutV
  rw [HT.sIx_nat, HT.sIx_none, Nat.min_eq_left (by omega), List.take_of_length_le (by rw [List.length_drop]; omega), Int.toNat_natCast]
end Sp

set_option Elab.async false
set_option linter.all false
/-! len within a comprehension: the fragment named -/
namespace Ck
open PySem PySem.Spec PyProof.Rows L2 Rd
theorem call_lenK {X : Cx} {K : PySem.W.Frag} (hK : X.K = K) : CallR X (.builtin "len") (fun xs H Q => ∃ p ys, xs = [V.ref p] ∧ (SqL K H p ys ∨ SqT K H p ys) ∧ Q (.int (ys.length : Nat)) H) := by
  subst hK
  exact call_len_seq
end Ck

set_option Elab.async false
set_option linter.all false
set_option maxRecDepth 100000
set_option maxHeartbeats 4000000
namespace K10
open PySem PySem.Spec PyProof.Rows L2 Rd Dt Dq Pk Ln En Sx Sy So Sr Lk Rq
local macro_rules | `(tactic| walk_at "rd") => `(tactic| try simp only [↓Lk.tLockE_, ↓Lk.tLock_, ↓Lk.tLc_keys, ↓Lk.tFor_keys, ↓Sy.tTupP_, ↓Sy.rTupP_, ↓Sy.rCatP_, ↓Sy.rSlP_, ↓Sy.rDictT_, ↓Sy.tDGet_, ↓Sy.tDGet1_, ↓Sy.tDIn_, ↓Sy.tDNotIn_, ↓Sy.tMeth_, ↓Sy.tMethKw_, ↓Sy.rSortedS_, ↓Sx.rIsT_, ↓En.tFor_enumT, ↓Sy.tFor_enumL, ↓Rv.tMakeKw_, ↓Prp.tProp_, ↓Lo.tBits_, ↓Lo.tJs_n, ↓Lo.tJs_c, ↓Lo.tFmt_, ↓Lo.gFld_, ↓Lo.tMake_, ↓Lo.rOwn_, ↓Rg.tFor_range3, ↓Rg.tLc_range3, ↓Rg.tLstC_, ↓Rg.tLc_rngV, ↓Le.rNeLE_, ↓Le.rEqLE_, ↓Ls.tLc_str, ↓Ls.sDPut_, ↓Rl.rReprL_, ↓Rl.tCallKS_, ↓Ob.tFld_, ↓Ob.sFld_, ↓tVar_, ↓tC_, ↓tM1, ↓tDNewK_, ↓tOp_, ↓tUn_, ↓rI_, ↓rI0_, ↓rU_, ↓eq_ii, ↓ne_ii, ↓eq_ss, ↓ne_ss, ↓eq_bb, ↓ne_bb, ↓tAndV_, ↓tOrV_, ↓tNotV_, ↓tIf_, ↓tTest_, ↓tB_, ↓tAnd_, ↓tOr_, ↓tNot_, ↓tChain_, ↓tNil_, ↓tCons_, ↓tTup_, ↓tLst_, ↓tCB_, ↓tCall_, ↓tSeq_, ↓tNext_, ↓tRet_, ↓tRetN_, ↓tDrop_, ↓tBreak_, ↓tNever_, ↓tIfS_, ↓tAsg_, ↓gName_, ↓gTup_, ↓gCons_, ↓gNil_, ↓gSub_, ↓tPar_, ↓tPar3_, ↓tSl_, ↓tNoPart_, ↓tPart_, ↓tBM_, ↓tFor_range1, ↓tFor_range2, ↓tFor_list, ↓tFor_tup, L2.start, List.headD_cons, List.headD_nil, List.tail_cons, List.map_cons, List.map_nil, List.length_cons, List.length_nil, List.replicate, List.append_nil, List.nil_append, List.cons_append, List.getElem?_cons_zero, List.getElem?_cons_succ, List.set_cons_zero, List.set_cons_succ, Option.some.injEq, V.int.injEq, V.bl.injEq, V.str.injEq, V.ref.injEq, exists_eq_left, exists_eq_left', exists_eq_right, exists_eq, exists_and_left, and_true, true_and, decide_eq_true_eq, Nat.reduceAdd, Nat.reduceSub, Nat.add_zero, Nat.zero_add, List.cons.injEq, Bool.not_eq_true', decide_eq_false_iff_not, eq_self, reduceCtorEq, Bool.false_eq_true, if_true, if_false, ite_true, ite_false, and_self, ↓tLc_range1, ↓tLc_range2, ↓tLc_list, ↓tLc_tup, ↓tYes_, wipe0, wipe1, ↓tCallS_, ↓rIxL_, ↓rIxT_, ↓rSlL_, ↓rCat_, ↓rSetL_, ↓rRep_, ↓rGcd_, ↓tCallK_, ↓gUnl_, ↓tRaise_, decide_true, decide_false, not_true_eq_false, not_false_eq_true, false_and, or_false, false_or, and_false, and_assoc, exists_const, forall_const, forall_eq'])


section
variable {P : Program} {w : World} {K : PySem.W.Frag} {mg : Str → Option Value} {base : Heap}
/-! ### the law's plan of a store -/
def atP (ns : List (Nat × Nat)) (p : Nat) : List Str := (ns.filter fun n => decide (n.2 = p)).map fun n => L1 n.1
def nmT (ns : List (Nat × Nat)) (p : Nat) : Str := if Txt.join "" (atP ns p) = "" then "-" else Txt.join "" (atP ns p)
def atQ (H : Hp) (ns : List (Nat × Nat)) (p : Nat) (D : Addr) (j : Nat) (H' : Hp) : Prop := Same H H' ∧ H' D = some (.lst ((atP (ns.take j) p).map V.str))
theorem atQ_step {H H' : Hp} {ns : List (Nat × Nat)} {p j : Nat} {D : Addr} {n : Nat × Nat} (h : atQ H ns p D j H') (hD : H D = none) (hn : ns[j]? = some n) (l : ns.length ≤ 4) :
    if n.2 = p then ∃ acc, H' D = some (.lst acc) ∧ acc.length < sizeLine ∧ atQ H ns p D (j + 1) (upd H' D (.lst (acc ++ [V.str (L1 n.1)]))) else atQ H ns p D (j + 1) H' := by
  obtain ⟨hs, hL⟩ := h
  have zl : (1000000 : Nat) ≤ sizeLine := line_big
  have e : atP (ns.take (j + 1)) p = atP (ns.take j) p ++ (if n.2 = p then [L1 n.1] else []) := by
    unfold atP
    rw [List.take_succ, hn, List.filter_append, List.map_append]
    congr 1
    show ([n].filter _).map _ = _
    rw [List.filter_cons, List.filter_nil]
    by_cases c : n.2 = p
    · rw [if_pos (decide_eq_true c), if_pos c]; rfl
    · rw [if_neg (by rw [decide_eq_false c]; decide), if_neg c]; rfl
  split
  · rename_i c
    refine ⟨_, hL, ?_, fun x o q => ?_, ?_⟩
    · rw [List.length_map]
      unfold atP
      rw [List.length_map]
      have h1 := List.length_filter_le (fun n : Nat × Nat => decide (n.2 = p)) (ns.take j)
      have : (ns.take j).length ≤ ns.length := List.length_take_le' _ _
      omega
    · rw [upd_ne (ne_of_none q hD)]; exact hs _ _ q
    · rw [upd_same, e, if_pos c, List.map_append]; rfl
  · rename_i c
    exact ⟨hs, by rw [e, if_neg c, List.append_nil]; exact hL⟩
/-- the word of a knot; F: the knots, nx: the next one -/
def wdT (cs ns : List (Nat × Nat)) (F : List Nat) (nx : Nat → Option Nat) (p : Nat) : Str :=
  nmT ns p ++ (if (look cs p).isNone = true then (if p = 0 then (".":Str) else ("!" : Str)) else (">" : Str) ++ Ln.numT (F.idxOf ((nx p).getD 0)))
/-- the lines so far -/
def LnR (WL SL : Addr) (ls : List Addr) (Ls : List (List Nat)) (H : Hp) : Prop := ls.length = Ls.length ∧ ∀ (k : Nat) (L : Addr) (l : List Nat), ls[k]? = some L → Ls[k]? = some l → L ≠ WL ∧ L ≠ SL ∧ H L = some (.lst (l.map iW))
theorem LnR.keep {WL SL : Addr} {ls : List Addr} {Ls : List (List Nat)} {H H' : Hp} (h : LnR WL SL ls Ls H) (k : ∀ x o, x ≠ WL → x ≠ SL → H x = some o → H' x = some o) : LnR WL SL ls Ls H' := ⟨h.1, fun i L l e1 e2 => by
  obtain ⟨a, b, c⟩ := h.2 i L l e1 e2
  exact ⟨a, b, k _ _ a b c⟩⟩
theorem LnR.put {WL SL L0 : Addr} {ls : List Addr} {Ls : List (List Nat)} {l0 : List Nat} {H : Hp} (h : LnR WL SL ls Ls H) (n1 : L0 ≠ WL) (n2 : L0 ≠ SL) (e : H L0 = some (.lst (l0.map iW))) : LnR WL SL (ls ++ [L0]) (Ls ++ [l0]) H := ⟨by rw [List.length_append, List.length_append, h.1]; rfl, fun i L l e1 e2 => by
  by_cases c : i < ls.length
  · rw [List.getElem?_append_left c] at e1
    rw [List.getElem?_append_left (by rw [← h.1]; exact c)] at e2
    exact h.2 i L l e1 e2
  · rw [List.getElem?_append_right (by omega)] at e1
    rw [List.getElem?_append_right (by rw [← h.1]; omega), ← h.1] at e2
    match i - ls.length, e1, e2 with
    | 0, e1, e2 => cases e1; cases e2; exact ⟨n1, n2, e⟩
    | j + 1, e1, _ => cases e1⟩
noncomputable def rwF (cs : List (Nat × Nat)) (F : List Nat) (i : Nat) : List (List Nat) := ((F.take i).filter fun p => (look cs p).isSome).map (lnOf cs F)
theorem rwF_len (cs : List (Nat × Nat)) (F : List Nat) (i : Nat) : (rwF cs F i).length ≤ F.length := by
  unfold rwF
  rw [List.length_map]
  refine Nat.le_trans (List.length_filter_le _ _) ?_
  rw [List.length_take]
  omega
theorem rwF_step {cs : List (Nat × Nat)} {F : List Nat} {i p : Nat} (h : F[i]? = some p) : rwF cs F (i + 1) = rwF cs F i ++ (if (look cs p).isSome = true then [lnOf cs F p] else []) := by
  unfold rwF
  rw [List.take_succ, h, List.filter_append, List.map_append]
  congr 1
  show ([p].filter _).map _ = _
  rw [List.filter_cons, List.filter_nil]
  split <;> rfl
theorem eqV_W {a b : Nat} : eqV (iW a) (iW b) = decide (a = b) := by
  have : eqV (iW a) (iW b) = decide ((a : Int) = (b : Int)) := rfl
  rw [this, decide_eq_decide]
  omega
theorem ch_at {cs : List (Nat × Nat)} {q : Nat} : ∀ {U : List Nat} {y : Nat}, Ch cs y U q → (U ++ [q])[0]? = some y ∧ ∀ (j x : Nat), U[j]? = some x → ∃ z, look cs x = some z ∧ (U ++ [q])[j + 1]? = some z
  | [], y, c => by
    cases c
    exact ⟨rfl, fun j x h => by cases h⟩
  | u :: U, y, c => by
    obtain ⟨rfl, z, hz, c2⟩ := Kt.ch_cons c
    obtain ⟨h0, hs⟩ := ch_at c2
    refine ⟨rfl, fun j x h => ?_⟩
    match j, h with
    | 0, h =>
      cases h
      exact ⟨z, hz, h0⟩
    | j + 1, h => exact hs j x h
theorem sc_pl : FnScope ["_law_names", "_law_cells", "_law_arrows_here", "_law_knots_here", "_law_come", "_law_words", "_law_stretches", "_law_knot", "_law_word", "_law_line", "_law_here", "_law_turn", "_law_letter", "_law_place"] ["_law_names", "_law_cells"] (defScope (top 38)) := ⟨rfl, rfl, rfl, by decide +kernel, rfl, by decide +kernel, by decide +kernel⟩
def spPl (K : PySem.W.Frag) : Sp := fun vs H Q _ => ∃ (a b : Addr) (ns cs : List (Nat × Nat)), vs = [.ref a, .ref b] ∧ PrsAt K H a (ns.map nk) ∧ PrsAt K H b (cs.map ck) ∧ NmOk ns ∧ ClOk cs ∧ cs.length ≤ 90 ∧
  ∀ (t wl le sl kb : Addr) (ls : List Addr) (R F : List Nat) H', Same H H' → R = comeF cs ns → F = knF cs ns (knB cs ns R) → R.Nodup → (∀ n ∈ ns, ∃ W e, Way cs n.2 W e) → H' t = some (.tup [.ref wl, .ref le, .int ((cs.length : Int) - (R.length : Int)), .ref sl, .ref kb]) → H' wl = some (.lst ((F.map (wdT cs ns F (Kt.nxt cs (knB cs ns R) (cs.length + 1)))).map V.str)) →
    H' le = some (.lst (((rwF cs F F.length).map fun l => l.length).map iW)) → H' sl = some (.lst (ls.map V.ref)) → LnR wl sl ls (rwF cs F F.length) H' → H' kb = some (.lst (F.map iW)) → Q (.ref t) H'
theorem ok_pl {f : Addr} {fd : FuncData} (T : Tx mg) (F : FD K "_law_plan" (top 38) f fd) {f1 f2 : Addr} {fd1 fd2 : FuncData} (C1 : Cal P w K mg base CX0 1 "_law_arrows" ["_law_cells"] (spArr K) f1 fd1) (C2 : Cal P w K mg base CX0 2 "_law_knots" ["_law_names", "_law_arrows_here"] (spKn K) f2 fd2) : FnOk P w K mg base CX0 3 f fd ["_law_names", "_law_cells"] (spPl K) := by
  obtain ⟨g_law_arrows, k_law_arrows, b_law_arrows, F_law_arrows⟩ := C1
  obtain ⟨g_law_knots, k_law_knots, b_law_knots, F_law_knots⟩ := C2
  refine F.ok sc_pl (fun vs H Q E h => ?_) (fun cdv A outer s H vs Q E hr h => ?_)
  · obtain ⟨_, _, _, _, rfl, _⟩ := h
    rfl
  · obtain ⟨a, b, ns, cs, rfl, hn, hc, okn, okc, c90, k⟩ := h
    have nd := sc_pl.nd
    have zl : (1000000 : Nat) ≤ sizeLine := line_big
    refine ⟨_, (pss_cons (ps_set (i := 2) nd rfl (Or.inl rfl) (pe_call F_law_arrows (hr.mono (by omega)) rfl g_law_arrows k_law_arrows b_law_arrows .nil pass0 (pa_cons (pv 1) pa_nil)))
        (pss_cons (ps_asg (pe_call F_law_knots (hr.mono (by omega)) rfl g_law_knots k_law_knots b_law_knots .nil pass0 (pa_cons (pv 0) (pa_cons (pv 2) pa_nil))) (pg_tup rfl (pgs_cons (pg_name (i := 3) nd rfl (Or.inl rfl) (hf := Or.inr rfl)) (pgs_cons (pg_name (i := 4) nd rfl (Or.inl rfl) (hf := Or.inr rfl)) pgs_nil))))
        (pss_cons (ps_par rfl nd (i := 5) (j := 6) rfl rfl (by decide) rfl rfl (pa_cons (pe_lst pa_nil) (pa_cons (pe_lst pa_nil) pa_nil)) rfl)
        (pss_cons (ps_for (passes_of rfl) rfl (pi_list (pv 3)) (pg_name (i := 7) nd rfl (Or.inr rfl)) (pss_cons (ps_set (i := 8) nd rfl (Or.inl rfl) (pe_join pe_str (pe_lc (own := [("_law_letter", 12), ("_law_place", 13)]) rfl nd (pi_tup (pv 0)) (blkOk_by (N := ["_law_names", "_law_cells", "_law_arrows_here", "_law_knots_here", "_law_come", "_law_words", "_law_stretches", "_law_knot", "_law_word", "_law_line", "_law_here", "_law_turn", "_law_letter", "_law_place"]) (sc := defScope (top 38)) (by decide +kernel)) (fun _ _ _ _ _ => (pg_tupK (K := K) (n := 2) rfl rfl (pgs_cons (pg_name (i := 12) nd rfl (Or.inl rfl) (hf := Or.inr rfl)) (pgs_cons (pg_name (i := 13) nd rfl (Or.inl rfl) (hf := Or.inr rfl)) pgs_nil)) rfl rfl)) (fun _ _ _ _ _ => (pts_one (pt_cmpR op_eq (pv 13) (pv 7) (nomark _)))) (fun _ _ _ _ _ => (pv 12)))))
        (pss_cons (ps_set (i := 8) nd rfl (Or.inl rfl) (pe_ifExp (pt_cmpR op_ne (pv 8) pe_str (nomark _)) (pv 8) pe_str))
        (pss_one (ps_if (pt_cmp (pc_dnotin (hu_of hr) (pv 7) (pv 2))) (pss_one (ps_expr (pe_bm PySem.F.plainAttrs_list PySem.F.slot_list_append PySem.F.type_list_append mt_append (pv 5) (pa_cons (pe_op op_add_str (pv 8) (pe_ifExp (pt_cmpR op_eq (pv 7) pe_int (nomark _)) pe_str pe_str)) pa_nil)))) (pss_cons (ps_par rfl nd (i := 9) (j := 10) rfl rfl (by decide) rfl rfl (pa_cons (pe_lst (pa_cons (pv 7) pa_nil)) (pa_cons (pe_dget (hu_of hr) (pv 2) (pv 7) (fun _ _ => rfl)) pa_nil)) rfl)
        (pss_cons (ps_for (passes_of rfl) rfl (pi_range1 rfl T.b_range (pa_cons (pe_callB call_lenD (by rfl) T.b_len PySem.boot_len (pa_cons (pv 2) pa_nil)) pa_nil)) (pg_name (i := 11) nd rfl (Or.inl rfl)) (pss_cons (ps_if (pt_cmpR (Ls.op_in_seqK (K := K) rfl) (pv 10) (pv 3) rfl) (pss_one ps_break) pss_nil)
        (pss_cons (ps_expr (pe_bm PySem.F.plainAttrs_list PySem.F.slot_list_append PySem.F.type_list_append mt_append (pv 9) (pa_cons (pv 10) pa_nil)))
        (pss_one (ps_set (i := 10) nd rfl (Or.inl rfl) (pe_dget (hu_of hr) (pv 2) (pv 10) (fun _ _ => rfl)))))))
        (pss_cons (ps_expr (pe_bm PySem.F.plainAttrs_list PySem.F.slot_list_append PySem.F.type_list_append mt_append (pv 5) (pa_cons (pe_op op_add_str (pe_op op_add_str (pv 8) pe_str) (pe_callTy call_str_int (by rfl) T.b_str (by decide +kernel) (pa_cons (pe_bm PySem.F.plainAttrs_list PySem.F.slot_list_index PySem.F.type_list_index mt_index (pv 3) (pa_cons (pv 10) pa_nil)) pa_nil))) pa_nil)))
        (pss_one (ps_expr (pe_bm PySem.F.plainAttrs_list PySem.F.slot_list_append PySem.F.type_list_append mt_append (pv 6) (pa_cons (pv 9) pa_nil))))))))))))
        (pss_one (ps_ret (pe_tup (pa_cons (pv 5) (pa_cons (pe_lc (own := [("_law_line", 9)]) rfl nd (pi_list (pv 6)) (blkOk_by (N := ["_law_names", "_law_cells", "_law_arrows_here", "_law_knots_here", "_law_come", "_law_words", "_law_stretches", "_law_knot", "_law_word", "_law_line", "_law_here", "_law_turn", "_law_letter", "_law_place"]) (sc := defScope (top 38)) (by decide +kernel)) (fun _ _ _ _ _ => (pg_name (i := 9) nd rfl (Or.inl rfl))) (fun _ _ _ _ _ => pts_nil) (fun _ _ _ _ _ => (pe_callB (Ck.call_lenK (K := K) rfl) (by rfl) T.b_len PySem.boot_len (pa_cons (pv 9) pa_nil)))) (pa_cons (pe_op op_sub (pe_callB call_lenD (by rfl) T.b_len PySem.boot_len (pa_cons (pv 2) pa_nil)) (pe_callB call_len_seq (by rfl) T.b_len PySem.boot_len (pa_cons (pv 4) pa_nil))) (pa_cons (pv 6) (pa_cons (pv 3) pa_nil)))))))))))), ?_⟩
    refine sq fun U hU => ?_
    walk_at "rd"
    refine ⟨b, cs, rfl, hc, okc, fun d H1 s1 hd => hU _ _ ?_⟩
    clear hU
    refine sq fun U hU => ?_
    walk_at "rd"
    refine ⟨a, d, ns, cs, rfl, hn.up s1, hd, okn.2.1, okc.1, fun t bb c R H2 s2 ht hc2 cm eR hb hW => ⟨t, rfl, _, SqT.of ht, rfl, _, _, rfl, _, _, rfl, rfl, hU _ _ ?_⟩⟩
    clear hU
    have s02 : Same H H2 := s1.trans s2
    have hd2 := s2 _ _ hd
    generalize hF : knF cs ns (knB cs ns R) = F at hb
    refine sq fun U hU => ?_
    walk_at "rd"
    refine ⟨by omega, fun WL hWL => ⟨by omega, fun SL hSL => hU _ _ ?_⟩⟩
    clear hU
    have t1 := same_new (o := HO.lst []) hWL
    have t2 := same_new (o := HO.lst []) hSL
    have eW := t2 _ _ (upd_same (H := H2) (a := WL) (o := HO.lst []))
    have eS := upd_same (H := upd H2 WL (.lst [])) (a := SL) (o := HO.lst [])
    have s23 := t1.trans t2
    have nWS : WL ≠ SL := fun z => by rw [← z, upd_same] at hSL; cases hSL
    have zS : H2 SL = none := t1.free hSL
    generalize upd (upd H2 WL (.lst [])) SL (.lst []) = H3 at eW eS s23 ⊢
    clear t1 t2 hSL
    have hb3 := s23 _ _ hb
    refine sq fun U hU => ?_
    walk_at "rd"
    refine ⟨⟨_, SqL.of hb3⟩, for_l (xs := F.map iW) (fun i σ H' => (∀ x o, H2 x = some o → H' x = some o) ∧ ∃ (ls : List Addr) (y8 y9 y10 y11 y12 y13 y14 : Option V), H' WL = some (.lst (((F.take i).map (wdT cs ns F (Kt.nxt cs (knB cs ns R) (cs.length + 1)))).map V.str)) ∧ H' SL = some (.lst (ls.map V.ref)) ∧ LnR WL SL ls (rwF cs F i) H' ∧ σ = [some (.ref a), some (.ref b), some (.ref d), some (.ref bb), some (.ref c), some (.ref WL), some (.ref SL), y8, y9, y10, y11, y12, y13, y14]) ⟨fun x o e => s23 _ _ e, [], none, none, none, none, none, none, none, eW, eS, ⟨rfl, fun k L l h => by cases h⟩, rfl⟩ (fun i σ H' _ hp => SqL.of (hp.1 _ _ hb)) ?_ ?_⟩
    · rintro i x σ H4 hx ⟨k4, ls, y8, y9, y10, y11, y12, y13, y14, hW4, hS4, ll, rfl⟩
      obtain ⟨p, hp, rfl⟩ := map_at hx
      refine sq fun U2 hU2 => ?_
      walk_at "rd"
      obtain ⟨xs, pl, prs⟩ := hn
      have lx := prs.len
      rw [List.length_map] at lx
      have s4 : Same H H4 := fun x o e => k4 _ _ (s02 _ _ e)
      have pl4 := PlT.up s4 pl
      have n4 := okn.2.1
      refine ⟨⟨_, rfl⟩, ⟨_, pl4.sqt⟩, lc_t (xs := xs) (atQ H4 ns p) fun D hD => ⟨⟨same_new hD, upd_same⟩, fun j H6 _ hP => sqt_up hP.1 pl4.sqt, ?_, ?_⟩⟩
      · rintro j y H5 hy hP
        obtain ⟨kv, b', hkv, rfl, eb⟩ := (prs.up (s4.trans hP.1)).atV hy
        obtain ⟨n, hn', rfl⟩ := map_at hkv
        have eb : SqT K H5 b' [.str (L1 n.1), .int n.2] := eb
        have step := atQ_step hP hD hn' n4
        unfold Lturn
        walk_at "rd"
        refine ⟨_, eb, rfl, _, _, rfl, _, _, rfl, rfl, ?_⟩
        simp only [eq_ii]
        refine ⟨_, rfl, ?_⟩
        by_cases c : n.2 = p
        · rw [if_pos (decide_eq_true (by omega))]
          rwa [if_pos c] at step
        · rw [if_neg (by rw [decide_eq_false (by omega)]; decide)]
          rwa [if_neg c] at step
      rintro H5 ⟨s5, hL5⟩
      rw [lx, List.take_length] at hL5
      refine ⟨D, rfl, atP ns p, .inl (SqL.of hL5), ?_, hU2 _ _ ?_⟩
      · have h3 : ("":Str).length = 0 := by decide
        have h2 : (atP ns p).length ≤ 4 := by
          unfold atP
          rw [List.length_map]
          exact Nat.le_trans (List.length_filter_le _ _) n4
        have h1 : ∀ ws : List Str, (∀ w ∈ ws, w.length = 1) → (ws.map fun x => x.length).sum = ws.length := fun ws => by
          induction ws with
          | nil => exact fun _ => rfl
          | cons w ws ih =>
            intro h
            rw [List.map_cons, List.sum_cons, h w (List.mem_cons_self ..), ih fun x hx => h x (List.mem_cons_of_mem _ hx), List.length_cons]
            omega
        rw [h1 (atP ns p) fun w hw => by
          unfold atP at hw
          obtain ⟨n, _, rfl⟩ := List.mem_map.mp hw
          rfl, h3]
        omega
      clear hU2
      refine sq fun U2 hU2 => ?_
      have stw : U2 [some (.ref a), some (.ref b), some (.ref d), some (.ref bb), some (.ref c), some (.ref WL), some (.ref SL), some (iW p), some (.str (nmT ns p)), y10, y11, y12, y13, y14] H5 := by
        refine hU2 _ _ ?_
        clear hU2
        have k5 : ∀ x o, H2 x = some o → H5 x = some o := fun x o e => s5 _ _ (k4 _ _ e)
        have hW5 := s5 _ _ hW4
        have hS5 := s5 _ _ hS4
        have hd5 := k5 _ _ hd2
        have hb5 := k5 _ _ hb
        have pF : p ∈ F := List.mem_of_getElem? hp
        have ln5 : LnR WL SL ls (rwF cs F i) H5 := ll.keep fun x o _ _ e => s5 _ _ e
        clear hL5 hW4 hS4 s5 pl4 s4 k4
        walk_at "rd"
        refine ⟨_, get_c hd5 p, ?_⟩
        rw [Option.isSome_map]
        have zW : H2 WL = none := hWL
        have nl1 : (nmT ns p).length ≤ 8 := by
          have h1 := join_len (y := "") (ws := atP ns p) (m := 1) (fun w hw => by
            unfold atP at hw
            obtain ⟨n, _, rfl⟩ := List.mem_map.mp hw
            exact Nat.le_refl _)
          have h2 : (atP ns p).length ≤ 4 := by
            unfold atP
            rw [List.length_map]
            exact Nat.le_trans (List.length_filter_le _ _) n4
          have h3 : ("":Str).length = 0 := by decide
          have h4 : ("-":Str).length = 1 := by decide
          unfold nmT
          split
          · omega
          · rw [h3] at h1
            omega
        have iF : i < F.length := (List.getElem?_eq_some_iff.mp hp).1
        have kF : F.length ≤ 600 := by
          have h1 := Dd.nodup_sub_len (l := F) (S := R ++ ns.map fun n => (wayOf cs n.2).2) (hF ▸ kn_nodup) (fun x hx => by
            rw [← hF] at hx
            obtain ⟨n, hn, m, _⟩ := mem_kn.mp hx
            rcases List.mem_append.mp m with m | m
            · exact List.mem_append_left _ (by rw [eR, mem_come]; exact ⟨n, hn, m⟩)
            · exact List.mem_append_right _ (List.mem_map.mpr ⟨n, hn, (List.mem_singleton.mp m).symm⟩))
          have h2 := cm.len
          have h3 := okn.2.1
          rw [List.length_append, List.length_map] at h1
          omega
        have wl : ((((F.take i).map (wdT cs ns F (Kt.nxt cs (knB cs ns R) (cs.length + 1)))).map V.str)).length < sizeLine := by
          rw [List.length_map, List.length_map, List.length_take]
          omega
        have app : ∀ (s : Str) (H6 : Hp) (ls' : List Addr), s = wdT cs ns F (Kt.nxt cs (knB cs ns R) (cs.length + 1)) p → (∀ x o, H2 x = some o → H6 x = some o) → H6 WL = some (.lst (((F.take i).map (wdT cs ns F (Kt.nxt cs (knB cs ns R) (cs.length + 1)))).map V.str)) → (∀ Q' : VK, (∀ H7, (∀ x o, x ≠ WL → H6 x = some o → H7 x = some o) → H7 WL = some (.lst (((F.take (i + 1)).map (wdT cs ns F (Kt.nxt cs (knB cs ns R) (cs.length + 1)))).map V.str)) → Q' .non H7) → rAppend (.ref WL) [.str s] H6 Q') := fun s H6 ls' es h6 w6 Q' kq => by
          refine ⟨WL, _, _, rfl, rfl, w6, wl, kq _ (fun x o n e => by rw [upd_ne n]; exact e) ?_⟩
          rw [upd_same, List.take_succ, hp, List.map_append, List.map_append, es]
          rfl
        cases hy : look cs p with
        | none =>
          rw [if_pos (by decide)]
          refine ⟨.inl ⟨rfl, _, SqL.of hW5⟩, ?_⟩
          have fin : ∀ s, s = wdT cs ns F (Kt.nxt cs (knB cs ns R) (cs.length + 1)) p → rAppend (.ref WL) [.str s] H5 fun x H1 => (∀ (x : Addr) (o : HO), H2 x = some o → H1 x = some o) ∧ H1 WL = some (.lst (((F.take (i + 1)).map (wdT cs ns F (Kt.nxt cs (knB cs ns R) (cs.length + 1)))).map V.str)) ∧ ∃ x, H1 SL = some (HO.lst (List.map V.ref x)) ∧ LnR WL SL x (rwF cs F (i + 1)) H1 ∧ ∃ x, y14 = x := fun s es =>
            app s H5 ls es k5 hW5 _ fun H7 b7 w7 => ⟨fun x o e => b7 _ _ (ne_of_none e zW) (k5 _ _ e), w7, ls, b7 _ _ (Ne.symm nWS) hS5, by
              rw [rwF_step hp, hy, if_neg (by decide), List.append_nil]
              exact ln5.keep fun x o n _ e => b7 _ _ n e, _, rfl⟩
          have e1 : (".":Str).length = 1 := by decide
          have e2 : ("!":Str).length = 1 := by decide
          by_cases z : p = 0
          · rw [if_pos (by omega)]
            refine ⟨by omega, fin _ ?_⟩
            unfold wdT
            rw [hy, if_pos (show (none : Option Nat).isNone = true from rfl), if_pos z]
          · rw [if_neg (by omega)]
            refine ⟨by omega, fin _ ?_⟩
            unfold wdT
            rw [hy, if_pos (show (none : Option Nat).isNone = true from rfl), if_neg z]
        | some y =>
          rw [if_neg (by simp)]
          obtain ⟨U, q, cU, qF, uF, pUn, pUR, nxp⟩ := str_ex hW cm.nd eR (by rw [hF]; exact pF) hy
          rw [hF] at qF uF
          have lU : U.length + 1 ≤ cs.length := by
            have := few pUn (fun x hx => by
              rcases List.mem_cons.mp hx with rfl | hx
              · rw [hy]; rfl
              · exact cU.key x hx)
            rw [List.length_cons] at this
            exact this
          obtain ⟨u0, us⟩ := ch_at cU
          refine ⟨by omega, fun L0 hL0 => ?_⟩
          have sL0 := same_new (o := HO.lst [iW p]) hL0
          have hL0' := hL0
          have eL0 : upd H5 L0 (.lst [iW p]) L0 = some (.lst [iW p]) := upd_same
          have zL0 : H2 L0 = none := by
            cases z : H2 L0 with
            | none => rfl
            | some o => rw [k5 _ _ z] at hL0; cases hL0
          have nLW : L0 ≠ WL := fun z => by rw [z, hW5] at hL0; cases hL0
          have nLS : L0 ≠ SL := fun z => by rw [z, hS5] at hL0; cases hL0
          generalize upd H5 L0 (.lst [iW p]) = H6 at sL0 eL0 ⊢
          have gd := get_c (sL0 _ _ hd5) p
          rw [hy] at gd
          refine ⟨_, gd, _, sL0 _ _ hd5, by omega, by rw [List.length_map]; omega, ?_⟩
          rw [List.length_map]
          refine for_r (n := ((cs.length : Nat) : Int).toNat) (fun j σ H' => But L0 H6 H' ∧ j ≤ U.length ∧ ∃ (h : Nat) (v : Option V), (U ++ [q])[j]? = some h ∧ H' L0 = some (.lst ((p :: U.take j).map iW)) ∧ σ = [some (.ref a), some (.ref b), some (.ref d), some (.ref bb), some (.ref c), some (.ref WL), some (.ref SL), some (iW p), some (.str (nmT ns p)), some (.ref L0), some (iW h), v, y13, y14]) ⟨But.refl, Nat.zero_le _, y, _, u0, eL0, rfl⟩ ?_ ?_
          · rintro j σ H7 hj ⟨b7, jU, h, v, hh, hL7, rfl⟩
            refine sq fun U3 hU3 => ?_
            walk_at "rd"
            have k7 : ∀ x o, H2 x = some o → H7 x = some o := fun x o e => b7 _ _ (ne_of_none e zL0) (sL0 _ _ (k5 _ _ e))
            have hb7 := k7 _ _ hb
            have hW7 := b7 _ _ (Ne.symm nLW) (sL0 _ _ hW5)
            have hS7 := b7 _ _ (Ne.symm nLS) (sL0 _ _ hS5)
            refine ⟨bb, F.map iW, rfl, .inl (SqL.of hb7), rfl, flat_W F, ?_⟩
            rw [if_neg (by decide), inV_W]
            refine ⟨_, rfl, ?_⟩
            by_cases je : j = U.length
            · subst je
              have hq : h = q := by
                rw [List.getElem?_append_right (Nat.le_refl _), Nat.sub_self] at hh
                exact (Option.some.inj hh).symm
              subst hq
              rw [decide_eq_true qF, if_pos rfl]
              have kl := List.idxOf_lt_length_of_mem qF
              have e1 : (">":Str).length = 1 := by decide
              have nl := Ln.numT_len (n := F.idxOf h) (by omega)
              refine ⟨.inl ⟨rfl, _, SqL.of hW7⟩, by omega, .inl ⟨rfl, _, SqL.of hb7⟩, bb, F.map iW, iW h, F.idxOf h, iW h, rfl, rfl, SqL.of hb7, rfl, flat_W F, ?_, by rw [eqV_W]; exact decide_eq_true rfl, fun m z hm hz => ?_, (F.idxOf h : Nat), rfl, ?_, ?_, ?_⟩
              · rw [List.getElem?_map, List.getElem?_eq_getElem kl, List.getElem_idxOf]
                rfl
              · obtain ⟨g, hg, rfl⟩ := map_at hz
                rw [eqV_W, decide_eq_false_iff_not]
                intro zz
                subst zz
                obtain ⟨ml, em⟩ := List.getElem?_eq_some_iff.mp hg
                have fn : F.Nodup := hF ▸ kn_nodup
                have e3 : F[F.idxOf g]? = F[m]? := by
                  rw [hg, List.getElem?_eq_getElem kl, List.getElem_idxOf]
                have := (List.getElem?_inj kl fn).mp e3
                omega
              · exact Nat.lt_of_le_of_lt (Nat.log2_le_self _) (by show F.idxOf h < 1920; omega)
              · rw [Str.length_append]
                have : (Str.ofString (toString ((F.idxOf h : Nat) : Int))).length ≤ 21 := nl
                omega
              · refine app _ H7 ls ?_ k7 hW7 _ fun H8 b8 w8 => ?_
                · unfold wdT
                  rw [hy, if_neg (by simp), nxp, Str.append_assoc]
                  rfl
                · have hS8 := b8 _ _ (Ne.symm nWS) hS7
                  refine ⟨.inl ⟨rfl, _, SqL.of hS8⟩, SL, _, _, rfl, rfl, hS8, by rw [List.length_map, ln5.1]; have := rwF_len cs F i; omega, fun x o e => ?_, ?_, ls ++ [L0], ?_, ?_, _, rfl⟩
                  · rw [upd_ne (ne_of_none e zS)]
                    exact b8 _ _ (ne_of_none e zW) (k7 _ _ e)
                  · rw [upd_ne nWS]
                    exact w8
                  · rw [upd_same, List.map_append]
                    rfl
                  · rw [rwF_step hp, hy, if_pos (by rfl), lnOf_eq hy cU qF uF]
                    have ln8 : LnR WL SL ls (rwF cs F i) H8 := ln5.keep fun x o n1 n2 e => b8 _ _ n1 (b7 _ _ (fun z => by rw [z, hL0'] at e; cases e) (sL0 _ _ e))
                    refine LnR.keep (ln8.put nLW nLS (l0 := p :: U) ?_) fun x o n1 n2 e => by rw [upd_ne n2]; exact e
                    have e8 := b8 _ _ nLW hL7
                    rw [List.take_length] at e8
                    exact e8
            · have jl : j < U.length := by omega
              have hu : U[j]? = some h := by rwa [List.getElem?_append_left jl] at hh
              obtain ⟨z, hz, hz2⟩ := us j h hu
              rw [decide_eq_false (uF h (List.mem_of_getElem? hu)), if_neg (by decide)]
              refine hU3 _ _ ?_
              clear hU3
              walk_at "rd"
              have dL : d ≠ L0 := fun z => by rw [z, zL0] at hd2; cases hd2
              have gz := get_c (k7 _ _ hd2) h
              rw [hz] at gz
              have lt_ : ((p :: U.take j).map iW).length ≤ 600 := by
                rw [List.length_map, List.length_cons, List.length_take]
                omega
              refine ⟨.inl ⟨rfl, _, SqL.of hL7⟩, L0, _, _, rfl, rfl, hL7, by omega, iW z, ?_, fun x o n e => by rw [upd_ne n]; exact b7 x o n e, by omega, z, hz2, ?_, rfl, _, rfl⟩
              · have := get_c (H := upd H7 L0 (.lst ((p :: U.take j).map iW ++ [iW h]))) (by rw [upd_ne dL]; exact k7 _ _ hd2) h
                rw [hz] at this
                exact this
              · rw [upd_same, List.take_succ, hu, List.map_append, List.map_cons]
                rfl
          · rintro σ H7 ⟨b7, jU, h, v, hh, hL7, rfl⟩
            rw [Int.toNat_natCast] at jU
            omega
      clear hU2
      walk_at "rd"
      unfold nmT at stw
      by_cases q : Txt.join "" (atP ns p) = ""
      · rw [if_neg (fun z => z q)]
        rw [if_pos q] at stw
        exact stw
      · rw [if_pos q]
        rw [if_neg q] at stw
        exact stw
    · rintro σ H4 ⟨k4, ls, y8, y9, y10, y11, y12, y13, y14, hW4, hS4, ll, rfl⟩
      refine hU _ _ ?_
      clear hU
      walk_at "rd"
      rw [List.length_map] at hW4 ll
      rw [List.take_length] at hW4
      have len_ := ll.1
      have lF : ls.length ≤ 1000 := by
        have h1 := rwF_len cs F F.length
        have h2 := Dd.nodup_sub_len (l := F) (S := R ++ ns.map fun n => (wayOf cs n.2).2) (hF ▸ kn_nodup) (fun x hx => by
          rw [← hF] at hx
          obtain ⟨n, hn, m, _⟩ := mem_kn.mp hx
          rcases List.mem_append.mp m with m | m
          · exact List.mem_append_left _ (by rw [eR, mem_come]; exact ⟨n, hn, m⟩)
          · exact List.mem_append_right _ (List.mem_map.mpr ⟨n, hn, (List.mem_singleton.mp m).symm⟩))
        have h3 := cm.len
        have h4 := okn.2.1
        rw [List.length_append, List.length_map] at h2
        omega
      refine ⟨⟨_, SqL.of hS4⟩, lc_l (xs := ls.map V.ref) (fun D j H' => Same H4 H' ∧ H' D = some (.lst ((((rwF cs F F.length).take j).map fun l => l.length).map iW))) fun D hD => ⟨⟨same_new hD, upd_same⟩, fun j H' _ hP => SqL.of (hP.1 _ _ hS4), ?_, ?_⟩⟩
      · rintro j y H5 hy ⟨s5, hL5⟩
        obtain ⟨L, hL, rfl⟩ := map_at hy
        have jl := (List.getElem?_eq_some_iff.mp hL).1
        obtain ⟨l, hl⟩ : ∃ l, (rwF cs F F.length)[j]? = some l := ⟨_, List.getElem?_eq_getElem (by omega)⟩
        obtain ⟨_, _, eL⟩ := ll.2 j L l hL hl
        unfold Lturn
        walk_at "rd"
        refine ⟨_, .inl (SqL.of (s5 _ _ eL)), _, hL5, ?_, fun x o e => ?_, ?_⟩
        · rw [List.length_map, List.length_map, List.length_take]
          omega
        · rw [upd_ne (ne_of_none e hD)]
          exact s5 _ _ e
        · rw [upd_same, List.take_succ, hl, List.map_append, List.map_append, List.length_map]
          rfl
      rintro H5 ⟨s5, hL5⟩
      rw [List.length_map, len_, List.take_length] at hL5
      have k5 : ∀ x o, H2 x = some o → H5 x = some o := fun x o e => s5 _ _ (k4 _ _ e)
      refine ⟨_, k5 _ _ hd2, _, .inl (SqL.of (k5 _ _ hc2)), by omega, fun t0 ht0 => ?_⟩
      have st := same_new (o := HO.tup [V.ref WL, V.ref D, V.int (((cs.map ck).length : Int) - ((R.map iW).length : Int)), V.ref SL, V.ref bb]) ht0
      refine k t0 WL D SL bb ls R F _ (fun x o e => st _ _ (k5 _ _ (s02 _ _ e))) eR hF.symm cm.nd hW ?_ (st _ _ (s5 _ _ hW4)) (st _ _ hL5) (st _ _ (s5 _ _ hS4)) (ll.keep fun x o _ _ e => st _ _ (s5 _ _ e)) (st _ _ (k5 _ _ hb))
      rw [upd_same, List.length_map, List.length_map]
end
end K10

set_option Elab.async false
set_option linter.all false
set_option maxRecDepth 100000
set_option maxHeartbeats 2000000
/-! data in which an empty dict may lie -/
namespace Dw
open PySem PySem.Spec PyProof.Rows L2 Rd Dt
open Dq (SysD smS)
/-- an empty dict, or one of a text's number -/
inductive Kv : List (Key × V) → List (PyData × PyData) → Prop
  | nil : Kv [] []
  | one (k : Str) (i : Int) (hk : smS k = true) (l : k.length ≤ 10) (hi : i.natAbs < 1024) : Kv [(.inr k, .int i)] [(.str k, .int i)]
mutual
inductive Dw (K : PySem.W.Frag) (H : Hp) : V → PyData → Prop
  | non : Dw K H .non .none
  | bl (b : Bool) : Dw K H (.bl b) (.bool b)
  | int (i : Int) (h : i.natAbs < 2 ^ 120) : Dw K H (.int i) (.int i)
  | str (x : Str) (h : smS x = true) : Dw K H (.str x) (.str x)
  | lst {a : Addr} {xs : List V} {ds : List PyData} : H a = some (.lst xs) → xs.length ≤ 2 → DwAll K H xs ds → Dw K H (.ref a) (.list ds)
  | tup {a : Addr} {xs : List V} {ds : List PyData} : H a = some (.tup xs) → DwAll K H xs ds → Dw K H (.ref a) (.tuple ds)
  | dic {a : Addr} {kvs : List (Key × V)} {ps : List (PyData × PyData)} : H a = some (.dK kvs) → Kv kvs ps → Dw K H (.ref a) (.dict ps)
inductive DwAll (K : PySem.W.Frag) (H : Hp) : List V → List PyData → Prop
  | nil : DwAll K H [] []
  | cons {v : V} {vs : List V} {d : PyData} {ds : List PyData} : Dw K H v d → DwAll K H vs ds → DwAll K H (v :: vs) (d :: ds)
end
variable {K : PySem.W.Frag} {H H' : Hp}
mutual
theorem Dw.ups {K : PySem.W.Frag} {H H' : Hp} (hs : ∀ a o, H a = some o → ((∃ xs : List V, (o = .lst xs ∧ xs.length ≤ 2) ∨ o = .tup xs) ∨ (∃ ks, o = .dK ks ∧ ks.length ≤ 1) → H' a = some o)) : ∀ (d : PyData) (v : V), Dw K H v d → Dw K H' v d
  | .none, _, h => by cases h; exact .non
  | .bool b, _, h => by cases h; exact .bl b
  | .int b, _, h => by cases h with | int _ h => exact .int b h
  | .str b, _, h => by cases h with | str _ h => exact .str b h
  | .dict b, _, h => by
    cases h with
    | dic a kv => exact .dic (hs _ _ a (.inr ⟨_, rfl, by cases kv <;> simp⟩)) kv
  | .list ds, _, h => by
    cases h with
    | lst a l b => exact .lst (hs _ _ a (.inl ⟨_, .inl ⟨rfl, l⟩⟩)) l (DwAll.ups hs ds _ b)
  | .tuple ds, _, h => by
    cases h with
    | tup a b => exact .tup (hs _ _ a (.inl ⟨_, .inr rfl⟩)) (DwAll.ups hs ds _ b)
theorem DwAll.ups {K : PySem.W.Frag} {H H' : Hp} (hs : ∀ a o, H a = some o → ((∃ xs : List V, (o = .lst xs ∧ xs.length ≤ 2) ∨ o = .tup xs) ∨ (∃ ks, o = .dK ks ∧ ks.length ≤ 1) → H' a = some o)) : ∀ (ds : List PyData) (vs : List V), DwAll K H vs ds → DwAll K H' vs ds
  | [], _, h => by cases h; exact .nil
  | d :: ds, _, h => by
    cases h with
    | cons a b => exact .cons (Dw.ups hs d _ a) (DwAll.ups hs ds _ b)
end
theorem Dw.up (hs : Same H H') {d : PyData} {v : V} (h : Dw K H v d) : Dw K H' v d := Dw.ups (fun a o e _ => hs a o e) d v h
theorem DwAll.up (hs : Same H H') {d : List PyData} {v : List V} (h : DwAll K H v d) : DwAll K H' v d := DwAll.ups (fun a o e _ => hs a o e) d v h
/-- data outlives what is done to other things -/
theorem Dw.keep {d : PyData} {v : V} (hs : ∀ a o, H a = some o → ((∃ xs : List V, (o = .lst xs ∧ xs.length ≤ 2) ∨ o = .tup xs) ∨ (∃ ks, o = .dK ks ∧ ks.length ≤ 1) → H' a = some o)) (h : Dw K H v d) : Dw K H' v d := Dw.ups hs d v h
theorem DwAll.keep {d : List PyData} {v : List V} (hs : ∀ a o, H a = some o → ((∃ xs : List V, (o = .lst xs ∧ xs.length ≤ 2) ∨ o = .tup xs) ∨ (∃ ks, o = .dK ks ∧ ks.length ≤ 1) → H' a = some o)) (h : DwAll K H v d) : DwAll K H' v d := DwAll.ups hs d v h
theorem DwAll.len : ∀ {vs : List V} {ds : List PyData}, DwAll K H vs ds → vs.length = ds.length
  | _, _, .nil => rfl
  | _, _, .cons _ h => congrArg (· + 1) h.len
theorem DwAll.at {vs : List V} {ds : List PyData} (h : DwAll K H vs ds) : ∀ {i : Nat} {d : PyData}, ds[i]? = some d → ∃ v, vs[i]? = some v ∧ Dw K H v d := by
  induction ds generalizing vs with
  | nil => intro i d e; cases i <;> cases e
  | cons x xs ih =>
    intro i d e
    cases h with
    | cons a b =>
      cases i with
      | zero => cases e; exact ⟨_, rfl, a⟩
      | succ i => exact ih b e
theorem DwAll.atV {vs : List V} {ds : List PyData} (h : DwAll K H vs ds) : ∀ {i : Nat} {v : V}, vs[i]? = some v → ∃ d, ds[i]? = some d ∧ Dw K H v d := by
  induction ds generalizing vs with
  | nil => intro i d e; cases h; cases i <;> cases e
  | cons x xs ih =>
    intro i d e
    cases h with
    | cons a b =>
      cases i with
      | zero => cases e; exact ⟨_, rfl, a⟩
      | succ i => exact ih b e
theorem DwAll.append {vs ws : List V} {ds es : List PyData} (h : DwAll K H vs ds) (g : DwAll K H ws es) : DwAll K H (vs ++ ws) (ds ++ es) := by
  induction ds generalizing vs with
  | nil => cases h; exact g
  | cons x xs ih =>
    cases h with
    | cons a b => exact .cons a (ih b)
theorem DwAll.take {vs : List V} {ds : List PyData} (h : DwAll K H vs ds) : ∀ n, DwAll K H (vs.take n) (ds.take n) := by
  induction ds generalizing vs with
  | nil => intro n; cases h; simp; exact .nil
  | cons x xs ih =>
    intro n
    cases h with
    | cons a b =>
      cases n with
      | zero => exact .nil
      | succ n => exact .cons a (ih b n)
theorem DwAll.drop {vs : List V} {ds : List PyData} (h : DwAll K H vs ds) : ∀ n, DwAll K H (vs.drop n) (ds.drop n) := by
  induction ds generalizing vs with
  | nil => intro n; cases h; simp; exact .nil
  | cons x xs ih =>
    intro n
    cases h with
    | cons a b =>
      cases n with
      | zero => exact .cons a b
      | succ n => exact ih b n
mutual
theorem Dw.dp {K : PySem.W.Frag} {H : Hp} : ∀ (d : PyData) (v : V), d.hasDict = false → Dw K H v d → Dp K H v d
  | .none, _, _, h => by cases h; exact .non
  | .bool b, _, _, h => by cases h; exact .bl b
  | .int b, _, _, h => by cases h; exact .int b
  | .str b, _, _, h => by cases h; exact .str b
  | .dict b, _, n, h => by rw [PyData.hasDict] at n; cases n
  | .list ds, _, n, h => by
    rw [PyData.hasDict] at n
    cases h with
    | lst a _ b => exact .lst (SqL.of a) (DwAll.dp ds _ n b)
  | .tuple ds, _, n, h => by
    rw [PyData.hasDict] at n
    cases h with
    | tup a b => exact .tup (SqT.of a) (DwAll.dp ds _ n b)
theorem DwAll.dp {K : PySem.W.Frag} {H : Hp} : ∀ (ds : List PyData) (vs : List V), PyData.hasDictAll ds = false → DwAll K H vs ds → DpAll K H vs ds
  | [], _, _, h => by cases h; exact .nil
  | d :: ds, _, n, h => by
    rw [PyData.hasDictAll, Bool.or_eq_false_iff] at n
    cases h with
    | cons a b => exact .cons (Dw.dp d _ n.1 a) (DwAll.dp ds _ n.2 b)
end
section
variable {X : Cx} {pins : List (Addr × Obj)} {σ : L2.St} {s : Shared}
mutual
theorem Dw.reads (S : SysD X.K) (I : Inv X pins σ H s) : ∀ (d : PyData) (v : V) (u : Value), Dw X.K H v d → RelV v u → ∃ as, Reads s.heap u d as ∧ sysModules ∉ as
  | .none, _, _, h, r => by
    cases h; cases r
    exact ⟨_, Reads.none, List.not_mem_nil⟩
  | .bool b, _, _, h, r => by
    cases h; cases r
    exact ⟨_, Reads.bool b, List.not_mem_nil⟩
  | .int b, _, _, h, r => by
    cases h
    obtain ⟨t, rfl⟩ := r
    exact ⟨_, Reads.int b t, List.not_mem_nil⟩
  | .str b, _, _, h, r => by
    cases h
    obtain ⟨t, rfl⟩ := r
    exact ⟨_, Reads.str b t, List.not_mem_nil⟩
  | .list ds, _, _, h, r => by
    cases h with
    | lst hs _ ha =>
      cases r
      obtain ⟨its, rv, ⟨o, n, ho, hc, _, hd⟩, _⟩ := I.list (SqL.of hs)
      obtain ⟨as, hr, hn⟩ := DwAll.reads S I ds _ its ha rv
      refine ⟨_, Reads.list ho hc hd hr, fun z => ?_⟩
      rcases List.mem_cons.mp z with z | z
      · obtain ⟨o', k1, k2⟩ := S
        have e := I.kIn _ _ k1
        rw [z, ho] at e
        cases e
        exact absurd (Value.type.inj (hc.symm.trans k2)) (by decide)
      · exact hn z
  | .tuple ds, _, _, h, r => by
    cases h with
    | tup hs ha =>
      cases r
      obtain ⟨its, rv, ⟨o, ho, hc, n, hd⟩, _⟩ := I.tuple (SqT.of hs)
      obtain ⟨as, hr, hn⟩ := DwAll.reads S I ds _ its ha rv
      exact ⟨_, Reads.tuple ho hc hd hr, hn⟩
  | .dict ds, _, _, h, r => by
    cases h with
    | dic ha kv =>
      cases r
      obtain ⟨_, hne, vs, hkv, o, es, ep, h1, h2, h3, h4, h5, h6⟩ := dk_of I.hok ha
      have fin : ∀ a : Addr, (a == sysModules) = false → sysModules ∉ a :: ([] : List Addr) ++ [] := fun a hne z => by
        have z' : sysModules = _ := List.mem_singleton.mp (by simpa using z)
        rw [← z'] at hne
        simp at hne
      cases kv with
      | nil =>
        cases hkv
        have e0 : es.toList = [] := by
          cases q : es.toList with
          | nil => rfl
          | cons x xs => rw [q] at h5; cases h5
        exact ⟨_, Reads.dict (es := es) (kvs := []) (as := []) (bs := []) h1 h2.1 h3 (by rw [e0]; exact ReadsAll.nil) (by rw [e0]; exact ReadsAll.nil), fin _ hne⟩
      | one k i hk l hi =>
        cases hkv with
        | cons hq hn =>
          cases hn
          obtain ⟨q1, q2⟩ := hq
          cases e0 : es.toList with
          | nil => rw [e0] at h5; cases h5
          | cons e r =>
            rw [e0] at h5
            cases h5 with
            | cons p1 p2 p3 =>
              cases p3
              rw [← q1] at p1
              rcases keyIs_shape (show keyIs (Sum.inr k) e.key = true from p1) with ⟨_, _, z, _⟩ | ⟨x, t, z, ek⟩
              · cases z
              · cases z
                obtain ⟨t2, q2⟩ := q2
                rw [q2] at p2
                exact ⟨_, Reads.dict (es := es) (kvs := [(.str k, .int i)]) (as := []) (bs := []) h1 h2.1 h3 (by rw [e0, List.map_cons, ek]; exact ReadsAll.cons (as := []) (Reads.str k t) ReadsAll.nil) (by rw [e0, List.map_cons, p2]; exact ReadsAll.cons (as := []) (Reads.int i t2) ReadsAll.nil), fin _ hne⟩
theorem DwAll.reads (S : SysD X.K) (I : Inv X pins σ H s) : ∀ (ds : List PyData) (vs : List V) (us : List Value), DwAll X.K H vs ds → Vals vs us → ∃ as, ReadsAll s.heap us ds as ∧ sysModules ∉ as
  | [], _, _, h, r => by
    cases h; cases r
    exact ⟨_, ReadsAll.nil, List.not_mem_nil⟩
  | d :: ds, _, _, h, r => by
    cases h with
    | cons h1 h2 =>
      cases r with
      | cons r1 r2 =>
        obtain ⟨as, q1, n1⟩ := Dw.reads S I d _ _ h1 r1
        obtain ⟨bs, q2, n2⟩ := DwAll.reads S I ds _ _ h2 r2
        refine ⟨_, ReadsAll.cons q1 q2, fun z => ?_⟩
        rcases List.mem_append.mp z with z | z
        · exact n1 z
        · exact n2 z
end
end
/-! ### sizes -/
mutual
def wz : PyData → Nat
  | .none | .bool _ => 12
  | .int _ => 130
  | .str s => 10 * s.length + 12
  | .list ds | .tuple ds => 3 + wzAll ds
  | .dict _ => 200
def wzAll : List PyData → Nat
  | [] => 0
  | d :: ds => 2 + wz d + wzAll ds
end
theorem wzAll_append : ∀ ds es : List PyData, wzAll (ds ++ es) = wzAll ds + wzAll es
  | [], es => by rw [List.nil_append, wzAll, Nat.zero_add]
  | d :: ds, es => by rw [List.cons_append, wzAll, wzAll, wzAll_append ds es]; omega
theorem depthAll_append : ∀ ds es : List PyData, PyData.depthAll (ds ++ es) = max (PyData.depthAll ds) (PyData.depthAll es)
  | [], es => by rw [List.nil_append, PyData.depthAll, Nat.zero_max]
  | d :: ds, es => by rw [List.cons_append, PyData.depthAll, PyData.depthAll, depthAll_append ds es, Nat.max_assoc]
mutual
theorem Dw.size {K : PySem.W.Frag} {H : Hp} : ∀ (d : PyData) (v : V), Dw K H v d → d.showable = true ∧ d.shown.length ≤ wz d
  | .none, _, _ => ⟨rfl, Nat.le_trans Fit.non.sz (by rw [wz]; decide)⟩
  | .bool b, _, _ => ⟨rfl, Nat.le_trans (Fit.bl b).sz (by rw [wz]; decide)⟩
  | .int i, _, h => by
    cases h with
    | int _ h =>
      have := Fit.int (i := i) (k := 120) (by decide) (by decide) h
      exact ⟨this.s, Nat.le_trans this.sz (by rw [wz]; decide)⟩
  | .str s, _, h => by
    cases h with
    | str _ h =>
      obtain ⟨h1, h2⟩ := Bool.and_eq_true_iff.mp h
      have h3 : ∀ c ∈ s.cps.toList, c < 0x110000 := fun c hc => by
        have := List.all_eq_true.mp (show s.cps.toList.all (· < 0x110000) = true by rw [Array.all_toList]; exact h2) c hc
        exact of_decide_eq_true this
      have := Fit.str (x := s) (n := s.length) (Nat.le_refl _) h3
      refine ⟨rfl, Nat.le_trans this.sz ?_⟩
      rw [wz]; omega
  | .dict b, _, h => by
    cases h with
    | dic a kv =>
      cases kv with
      | nil => exact ⟨rfl, by rw [wz]; unfold PyData.shown; decide +kernel⟩
      | one k i hk l hi =>
        obtain ⟨h1, h2⟩ := Bool.and_eq_true_iff.mp hk
        have h3 : ∀ c ∈ k.cps.toList, c < 0x110000 := fun c hc => by
          have := List.all_eq_true.mp (show k.cps.toList.all (· < 0x110000) = true by rw [Array.all_toList]; exact h2) c hc
          exact of_decide_eq_true this
        have f1 := Fit.str (x := k) (n := k.length) (Nat.le_refl _) h3
        have f2 := Fit.int (i := i) (k := 10) (by decide) (by decide) hi
        have z1 := f1.sz
        have z2 := f2.sz
        have z3 := f2.s
        refine ⟨?_, ?_⟩
        · rw [PyData.showable, PyData.showableKv, PyData.showableKv, z3]; rfl
        · have e1 : (PyData.dict [(PyData.str k, PyData.int i)]).shown = ("{" : Str) ++ (PyData.shown (.str k) ++ ": " ++ PyData.shown (.int i)) ++ "}" := by
            have j1 : ∀ x : Str, Str.join ", " [x] = x := fun x => by simp [Str.join]
            simp only [PyData.shown, PyData.shownKv, dictText, j1]
          rw [e1, wz, Str.length_append, Str.length_append, Str.length_append, Str.length_append]
          have l1 : ("{" : Str).length = 1 := by decide
          have l2 : ("}" : Str).length = 1 := by decide
          have l3 : (": " : Str).length = 2 := by decide
          omega
  | .list ds, _, h => by
    cases h with
    | lst a _ b =>
      obtain ⟨h1, h2, h3⟩ := DwAll.size ds _ b
      refine ⟨by rw [PyData.showable, h1], ?_⟩
      rw [PyData.shown, wz]
      have := listText_len_le (PyData.shownAll ds)
      omega
  | .tuple ds, _, h => by
    cases h with
    | tup a b =>
      obtain ⟨h1, h2, h3⟩ := DwAll.size ds _ b
      refine ⟨by rw [PyData.showable, h1], ?_⟩
      rw [PyData.shown, wz]
      have := tupleText_len_le (PyData.shownAll ds)
      omega
theorem DwAll.size {K : PySem.W.Frag} {H : Hp} : ∀ (ds : List PyData) (vs : List V), DwAll K H vs ds → PyData.showableAll ds = true ∧ ((PyData.shownAll ds).map (·.length)).sum + 2 * (PyData.shownAll ds).length ≤ wzAll ds ∧ True
  | [], _, _ => ⟨rfl, by rw [PyData.shownAll, wzAll]; decide, trivial⟩
  | d :: ds, _, h => by
    cases h with
    | cons a b =>
      obtain ⟨x1, x2⟩ := Dw.size d _ a
      obtain ⟨h1, h2, _⟩ := DwAll.size ds _ b
      refine ⟨by rw [PyData.showableAll, x1, h1]; rfl, ?_, trivial⟩
      rw [PyData.shownAll, wzAll, List.map_cons, List.sum_cons, List.length_cons]
      omega
end
/-! ### repr -/
def rReprW (K : PySem.W.Frag) : List V → Hp → VK → Prop := fun xs H Q => ∃ (x : V) (d : PyData), xs = [x] ∧ Dw K H x d ∧ d.depth ≤ 50 ∧ wz d ≤ 1000000 ∧ Q (.str d.shown) H
theorem call_reprW {X : Cx} {K : PySem.W.Frag} (hK : X.K = K) (S : SysD K) (hG : X.A.guards = some []) (hu : X.A.units + 64 < cLine) : CallR X (.builtin "repr") (rReprW K) := by
  subst hK
  intro pins s σ H xs us Q I rv h
  obtain ⟨x, d, rfl, hd, hdp, hw, q⟩ := h
  obtain ⟨hs, hz'⟩ := hd.size
  have hz : d.shown.length ≤ sizeLine := Nat.le_trans (Nat.le_trans hz' hw) (by rw [sizeLine_eq]; decide)
  cases rv with
  | cons rx rn =>
    cases rn
    have fin : ∀ (tk : Nat) (u : Tok), EP X pins σ Q (.str d.shown u) { s with toks := tk } := fun tk u => ⟨.str d.shown, H, I.tok _, ⟨u, rfl⟩, q⟩
    obtain ⟨as, rd, hn⟩ := Dw.reads S I d x _ hd rx
    cases hd with
    | non => cases rx; exact PySem.P.repr_of_none (fin _ _)
    | bl b => cases rx; cases b <;> exact PySem.P.repr_of_bool (fin _ _)
    | int i _ =>
      obtain ⟨t, rfl⟩ := rx
      rw [PyData.showable] at hs
      exact PySem.P.repr_of_int (of_decide_eq_true hs) (fin _ _)
    | str y _ => obtain ⟨t, rfl⟩ := rx; exact PySem.P.repr_of_str (fin _ _) hz
    | lst ha _ hb =>
      cases rx
      exact repr_of_reads' rd hs (fun _ => hn) hG (by omega) (fun _ _ z => z) (fun h' u tk hk => ⟨.str _, H, I.kept (t' := tk) hk, ⟨u, rfl⟩, q⟩) hz
    | tup ha hb =>
      cases rx
      exact repr_of_reads' rd hs (fun _ => hn) hG (by omega) (fun _ _ z => z) (fun h' u tk hk => ⟨.str _, H, I.kept (t' := tk) hk, ⟨u, rfl⟩, q⟩) hz
    | dic ha _ =>
      cases rx
      exact repr_of_reads' rd hs (fun _ => hn) hG (by omega) (fun _ _ z => z) (fun h' u tk hk => ⟨.str _, H, I.kept (t' := tk) hk, ⟨u, rfl⟩, q⟩) hz
end Dw

set_option Elab.async false
set_option linter.all false
set_option maxRecDepth 100000
set_option maxHeartbeats 4000000
namespace K10
open PySem PySem.Spec PyProof.Rows L2 Rd Dt Dq Pk Ln En Sx Sy So Sr Lk Rq
local macro_rules | `(tactic| walk_at "rd") => `(tactic| try simp only [↓Lk.tLockE_, ↓Lk.tLock_, ↓Lk.tLc_keys, ↓Lk.tFor_keys, ↓Sy.tTupP_, ↓Sy.rTupP_, ↓Sy.rCatP_, ↓Sy.rSlP_, ↓Sy.rDictT_, ↓Sy.tDGet_, ↓Sy.tDGet1_, ↓Sy.tDIn_, ↓Sy.tDNotIn_, ↓Sy.tMeth_, ↓Sy.tMethKw_, ↓Sy.rSortedS_, ↓Sx.rIsT_, ↓En.tFor_enumT, ↓Sy.tFor_enumL, ↓Rv.tMakeKw_, ↓Prp.tProp_, ↓Lo.tBits_, ↓Lo.tJs_n, ↓Lo.tJs_c, ↓Lo.tFmt_, ↓Lo.gFld_, ↓Lo.tMake_, ↓Lo.rOwn_, ↓Rg.tFor_range3, ↓Rg.tLc_range3, ↓Rg.tLstC_, ↓Rg.tLc_rngV, ↓Le.rNeLE_, ↓Le.rEqLE_, ↓Ls.tLc_str, ↓Ls.sDPut_, ↓Rl.rReprL_, ↓Rl.tCallKS_, ↓Ob.tFld_, ↓Ob.sFld_, ↓tVar_, ↓tC_, ↓tM1, ↓tDNewK_, ↓tOp_, ↓tUn_, ↓rI_, ↓rI0_, ↓rU_, ↓eq_ii, ↓ne_ii, ↓eq_ss, ↓ne_ss, ↓eq_bb, ↓ne_bb, ↓tAndV_, ↓tOrV_, ↓tNotV_, ↓tIf_, ↓tTest_, ↓tB_, ↓tAnd_, ↓tOr_, ↓tNot_, ↓tChain_, ↓tNil_, ↓tCons_, ↓tTup_, ↓tLst_, ↓tCB_, ↓tCall_, ↓tSeq_, ↓tNext_, ↓tRet_, ↓tRetN_, ↓tDrop_, ↓tBreak_, ↓tNever_, ↓tIfS_, ↓tAsg_, ↓gName_, ↓gTup_, ↓gCons_, ↓gNil_, ↓gSub_, ↓tPar_, ↓tPar3_, ↓tSl_, ↓tNoPart_, ↓tPart_, ↓tBM_, ↓tFor_range1, ↓tFor_range2, ↓tFor_list, ↓tFor_tup, L2.start, List.headD_cons, List.headD_nil, List.tail_cons, List.map_cons, List.map_nil, List.length_cons, List.length_nil, List.replicate, List.append_nil, List.nil_append, List.cons_append, List.getElem?_cons_zero, List.getElem?_cons_succ, List.set_cons_zero, List.set_cons_succ, Option.some.injEq, V.int.injEq, V.bl.injEq, V.str.injEq, V.ref.injEq, exists_eq_left, exists_eq_left', exists_eq_right, exists_eq, exists_and_left, and_true, true_and, decide_eq_true_eq, Nat.reduceAdd, Nat.reduceSub, Nat.add_zero, Nat.zero_add, List.cons.injEq, Bool.not_eq_true', decide_eq_false_iff_not, eq_self, reduceCtorEq, Bool.false_eq_true, if_true, if_false, ite_true, ite_false, and_self, ↓tLc_range1, ↓tLc_range2, ↓tLc_list, ↓tLc_tup, ↓tYes_, wipe0, wipe1, ↓tCallS_, ↓rIxL_, ↓rIxT_, ↓rSlL_, ↓rCat_, ↓rSetL_, ↓rRep_, ↓rGcd_, ↓tCallK_, ↓gUnl_, ↓tRaise_, decide_true, decide_false, not_true_eq_false, not_false_eq_true, false_and, or_false, false_or, and_false, and_assoc, exists_const, forall_const, forall_eq'])


section
variable {P : Program} {w : World} {K : PySem.W.Frag} {mg : Str → Option Value} {base : Heap}
/-! ### the law's text of a plan -/
def intT (n : Nat) : Str := Str.ofString (toString (n : Int))
theorem intT_len {n : Nat} (h : n < 2 ^ 120) : (intT n).length ≤ 130 := by
  have := (Dw.Dw.size (K := default) (H := fun _ => none) (.int (n : Int)) (.int (n : Int)) (.int _ (by simpa using h))).2
  exact this
def lenT (ls : List Nat) : Str := if ls = [] then "none" else Txt.join " " (ls.map fun l => intT l)
def planT (ws : List Str) (ls : List Nat) (l : Nat) : Str := Txt.join " " ws ++ " | " ++ lenT ls ++ " | " ++ intT l
def spPT (K : PySem.W.Frag) : Sp := fun vs H Q _ => ∃ (a b : Addr) (ws : List Str) (ls : List Nat) (l : Nat), vs = [.ref a, .ref b, .int l] ∧ SqL K H a (ws.map V.str) ∧ SqT K H b (ls.map fun l => V.int (l : Nat)) ∧ ws.length ≤ 20 ∧ (∀ w ∈ ws, w.length ≤ 100) ∧ ls.length ≤ 20 ∧ (∀ x ∈ ls, x < 2 ^ 120) ∧ l < 2 ^ 120 ∧ ∀ H', Same H H' → Q (.str (planT ws ls l)) H'
theorem sc_pt : FnScope ["_law_words", "_law_lengths", "_law_lost", "_law_middle", "_law_each"] ["_law_words", "_law_lengths", "_law_lost"] (defScope (top 39)) := ⟨rfl, rfl, rfl, by decide +kernel, rfl, by decide +kernel, by decide +kernel⟩
theorem ok_pt {f : Addr} {fd : FuncData} (T : Tx mg) (F : FD K "_law_plan_text" (top 39) f fd) : FnOk P w K mg base CX0 1 f fd ["_law_words", "_law_lengths", "_law_lost"] (spPT K) := by
  refine F.ok sc_pt (fun vs H Q E h => ?_) (fun cdv A outer s H vs Q E hr h => ?_)
  · obtain ⟨_, _, _, _, _, rfl, _⟩ := h
    rfl
  · obtain ⟨a, b, ws, ls, l, rfl, ha, hb, lw, lw2, ll, ll2, l2, k⟩ := h
    have nd := sc_pt.nd
    have zl : (1000000 : Nat) ≤ sizeLine := line_big
    refine ⟨_, (pss_cons (ps_set (i := 3) nd rfl (Or.inl rfl) (pe_ifExp (pt_cmpR op_gt (pe_callB call_len_seq (by rfl) T.b_len PySem.boot_len (pa_cons (pv 1) pa_nil)) pe_int (nomark _)) (pe_join pe_str (pe_lc (own := [("_law_each", 4)]) rfl nd (pi_tup (pv 1)) (blkOk_by (N := ["_law_words", "_law_lengths", "_law_lost", "_law_middle", "_law_each"]) (sc := defScope (top 39)) (by decide +kernel)) (fun _ _ _ _ _ => (pg_name (i := 4) nd rfl (Or.inl rfl))) (fun _ _ _ _ _ => pts_nil) (fun _ _ _ _ _ => (pe_callTy call_str_int (by rfl) T.b_str (by decide +kernel) (pa_cons (pv 4) pa_nil))))) pe_str))
        (pss_one (ps_ret (pe_op op_add_str (pe_op op_add_str (pe_op op_add_str (pe_op op_add_str (pe_join pe_str (pv 0)) pe_str) (pv 3)) pe_str) (pe_callTy call_str_int (by rfl) T.b_str (by decide +kernel) (pa_cons (pv 2) pa_nil)))))), ?_⟩
    refine sq fun U hU => ?_
    walk_at "rd"
    have lc (n : Nat) (h : n < 2 ^ 120) : ((n : Int)).natAbs.log2 < 1920 := by
      rw [Int.natAbs_natCast]
      refine Nat.lt_of_le_of_lt (Nat.le_of_lt_succ (n := 120) ?_) (by decide)
      by_cases z : n = 0
      · subst z; decide
      · exact Nat.lt_succ_of_lt ((Nat.log2_lt z).mpr h)
    have stm : ∀ H1, Same H H1 → U [some (.ref a), some (.ref b), some (.int l), some (.str (lenT ls)), none] H1 := fun H1 s1 => by
      refine hU _ _ ?_
      clear hU
      walk_at "rd"
      have sb : (" | ":Str).length = 3 := by decide
      have s1b : (" ":Str).length = 1 := by decide
      have jw := join_len (y := " ") (ws := ws) (m := 100) lw2
      have lt_ : (lenT ls).length ≤ 3000 := by
        unfold lenT
        split
        · decide
        · have := join_len (y := " ") (ws := ls.map fun l => intT l) (m := 130) (fun w hw => by
            obtain ⟨n, hn, rfl⟩ := List.mem_map.mp hw
            exact intT_len (ll2 n hn))
          rw [List.length_map, s1b] at this
          omega
      have il := intT_len l2
      have il2 : (Str.ofString (toString (l : Int))).length ≤ 130 := il
      rw [s1b] at jw
      have jw2 : (Txt.join (Str.ofString " ") ws).length ≤ 2020 := by
        have : ws.length * 101 ≤ 20 * 101 := Nat.mul_le_mul_right _ lw
        exact Nat.le_trans jw (by omega)
      have hs : (ws.map fun x => x.length).sum ≤ 2000 := by
        have := sum_le (fun s : Str => s.length) 100 ws lw2
        omega
      refine ⟨⟨_, rfl⟩, ws, .inl (s1.seq ha), by rw [s1b]; omega, by omega, by rw [Str.length_append]; omega, by rw [Str.length_append, Str.length_append]; omega, lc l l2, by rw [Str.length_append, Str.length_append, Str.length_append]; omega, k H1 s1⟩
    refine ⟨_, .inr hb, ?_⟩
    rw [List.length_map]
    by_cases c : ls = []
    · rw [if_neg (by rw [c]; decide)]
      have := stm H (Same.refl _)
      unfold lenT at this
      rwa [if_pos c] at this
    · have l0 : 0 < ls.length := List.length_pos_iff.mpr c
      rw [if_pos (by omega)]
      refine ⟨⟨_, rfl⟩, ⟨_, hb⟩, lc_t (xs := ls.map fun l => V.int (l : Nat)) (fun D j H' => Same H H' ∧ H' D = some (.lst (((ls.take j).map fun l => intT l).map V.str))) fun D hD => ⟨⟨same_new hD, upd_same⟩, fun j H' _ hP => sqt_up hP.1 hb, ?_, ?_⟩⟩
      · rintro j y H5 hy ⟨s5, hL5⟩
        obtain ⟨n, hn, rfl⟩ := map_at hy
        unfold Lturn
        walk_at "rd"
        refine ⟨lc n (ll2 n (List.mem_of_getElem? hn)), _, hL5, ?_, fun x o e => ?_, ?_⟩
        · rw [List.length_map, List.length_map, List.length_take]
          omega
        · rw [upd_ne (ne_of_none e hD)]
          exact s5 _ _ e
        · rw [upd_same, List.take_succ, hn, List.map_append, List.map_append]
          rfl
      rintro H5 ⟨s5, hL5⟩
      rw [List.length_map, List.take_length] at hL5
      refine ⟨D, rfl, _, .inl (SqL.of hL5), ?_, ?_⟩
      · have h1 := sum_le (fun s : Str => s.length) 130 (ls.map fun l => intT l) (fun s hs => by
          obtain ⟨n, hn, rfl⟩ := List.mem_map.mp hs
          exact intT_len (ll2 n hn))
        have h3 : (" ":Str).length = 1 := by decide
        rw [List.length_map] at h1
        rw [List.length_map, h3]
        omega
      · have := stm H5 s5
        unfold lenT at this
        rwa [if_neg c] at this
end
end K10

set_option Elab.async false
set_option linter.all false
set_option maxRecDepth 100000
set_option maxHeartbeats 4000000
namespace K10
open PySem PySem.Spec PyProof.Rows L2 Rd Dt Dq Pk Ln En Sx Sy So Sr Lk Rq
local macro_rules | `(tactic| walk_at "rd") => `(tactic| try simp only [↓Lk.tLockE_, ↓Lk.tLock_, ↓Lk.tLc_keys, ↓Lk.tFor_keys, ↓Sy.tTupP_, ↓Sy.rTupP_, ↓Sy.rCatP_, ↓Sy.rSlP_, ↓Sy.rDictT_, ↓Sy.tDGet_, ↓Sy.tDGet1_, ↓Sy.tDIn_, ↓Sy.tDNotIn_, ↓Sy.tMeth_, ↓Sy.tMethKw_, ↓Sy.rSortedS_, ↓Sx.rIsT_, ↓En.tFor_enumT, ↓Sy.tFor_enumL, ↓Rv.tMakeKw_, ↓Prp.tProp_, ↓Lo.tBits_, ↓Lo.tJs_n, ↓Lo.tJs_c, ↓Lo.tFmt_, ↓Lo.gFld_, ↓Lo.tMake_, ↓Lo.rOwn_, ↓Rg.tFor_range3, ↓Rg.tLc_range3, ↓Rg.tLstC_, ↓Rg.tLc_rngV, ↓Le.rNeLE_, ↓Le.rEqLE_, ↓Ls.tLc_str, ↓Ls.sDPut_, ↓Rl.rReprL_, ↓Rl.tCallKS_, ↓Ob.tFld_, ↓Ob.sFld_, ↓tVar_, ↓tC_, ↓tM1, ↓tDNewK_, ↓tOp_, ↓tUn_, ↓rI_, ↓rI0_, ↓rU_, ↓eq_ii, ↓ne_ii, ↓eq_ss, ↓ne_ss, ↓eq_bb, ↓ne_bb, ↓tAndV_, ↓tOrV_, ↓tNotV_, ↓tIf_, ↓tTest_, ↓tB_, ↓tAnd_, ↓tOr_, ↓tNot_, ↓tChain_, ↓tNil_, ↓tCons_, ↓tTup_, ↓tLst_, ↓tCB_, ↓tCall_, ↓tSeq_, ↓tNext_, ↓tRet_, ↓tRetN_, ↓tDrop_, ↓tBreak_, ↓tNever_, ↓tIfS_, ↓tAsg_, ↓gName_, ↓gTup_, ↓gCons_, ↓gNil_, ↓gSub_, ↓tPar_, ↓tPar3_, ↓tSl_, ↓tNoPart_, ↓tPart_, ↓tBM_, ↓tFor_range1, ↓tFor_range2, ↓tFor_list, ↓tFor_tup, L2.start, List.headD_cons, List.headD_nil, List.tail_cons, List.map_cons, List.map_nil, List.length_cons, List.length_nil, List.replicate, List.append_nil, List.nil_append, List.cons_append, List.getElem?_cons_zero, List.getElem?_cons_succ, List.set_cons_zero, List.set_cons_succ, Option.some.injEq, V.int.injEq, V.bl.injEq, V.str.injEq, V.ref.injEq, exists_eq_left, exists_eq_left', exists_eq_right, exists_eq, exists_and_left, and_true, true_and, decide_eq_true_eq, Nat.reduceAdd, Nat.reduceSub, Nat.add_zero, Nat.zero_add, List.cons.injEq, Bool.not_eq_true', decide_eq_false_iff_not, eq_self, reduceCtorEq, Bool.false_eq_true, if_true, if_false, ite_true, ite_false, and_self, ↓tLc_range1, ↓tLc_range2, ↓tLc_list, ↓tLc_tup, ↓tYes_, wipe0, wipe1, ↓tCallS_, ↓rIxL_, ↓rIxT_, ↓rSlL_, ↓rCat_, ↓rSetL_, ↓rRep_, ↓rGcd_, ↓tCallK_, ↓gUnl_, ↓tRaise_, decide_true, decide_false, not_true_eq_false, not_false_eq_true, false_and, or_false, false_or, and_false, and_assoc, exists_const, forall_const, forall_eq'])


section
variable {P : Program} {w : World} {K : PySem.W.Frag} {mg : Str → Option Value} {base : Heap}
/-! ### a drawn plan -/
def far : Nat := 1000000000000000000000000000000
def cellW_ (w : Str) : Bool := decide (62 ∈ w.cps.toList)
/-- lengths drawn so far -/
structure DlP (H : Hp) (u D : Addr) (ws : List Str) (j : Nat) (ls : List Nat) (H' : Hp) : Prop where
  b : But u H H'
  w : WellAt H' u
  d : H' D = some (.lst (ls.map fun l => V.int (l : Nat)))
  len : ls.length = ((ws.take j).filter cellW_).length
  mem : ∀ x ∈ ls, 1 ≤ x ∧ x ≤ far
def spDP (K : PySem.W.Frag) : Sp := fun vs H Q _ => ∃ (u a : Addr) (ws : List Str), vs = [.ref u, .ref a] ∧ WellAt H u ∧ a ≠ u ∧ H a = some (.lst (ws.map V.str)) ∧ ws.length ≤ 20 ∧ (∀ w ∈ ws, w.length ≤ 100) ∧
  ∀ (t b : Addr) (ls : List Nat) (l : Nat) H', But u H H' → WellAt H' u → H' t = some (.tup [.str (Txt.join " " ws), .ref b, .int l]) → SqT K H' b (ls.map fun l => V.int (l : Nat)) → ls.length = (ws.filter cellW_).length → (∀ x ∈ ls, 1 ≤ x ∧ x ≤ far) → l ≤ far → Q (.ref t) H'
theorem sc_dp : FnScope ["_law_jug_here", "_law_words", "_law_great", "_law_lengths", "_law_word"] ["_law_jug_here", "_law_words"] (defScope (top 40)) := ⟨rfl, rfl, rfl, by decide +kernel, rfl, by decide +kernel, by decide +kernel⟩
theorem ok_dp {f : Addr} {fd : FuncData} (T : Tx mg) (F : FD K "_law_drawn_plan" (top 40) f fd) {f1 f2 : Addr} {fd1 fd2 : FuncData} (C1 : Cal P w K mg base CX0 1 "_law_take" ["_law_jug_here", "_law_many"] spTake f1 fd1) (C2 : Cal P w K mg base CX0 2 "_law_one_of" ["_law_jug_here", "_law_some"] spPick f2 fd2) : FnOk P w K mg base CX0 3 f fd ["_law_jug_here", "_law_words"] (spDP K) := by
  obtain ⟨g_law_take, k_law_take, b_law_take, F_law_take⟩ := C1
  obtain ⟨g_law_one_of, k_law_one_of, b_law_one_of, F_law_one_of⟩ := C2
  refine F.ok sc_dp (fun vs H Q E h => ?_) (fun cdv A outer s H vs Q E hr h => ?_)
  · obtain ⟨_, _, _, rfl, _⟩ := h
    rfl
  · obtain ⟨u, a, ws, rfl, hw, au, ha, lw, lw2, k⟩ := h
    have nd := sc_dp.nd
    have zl : (1000000 : Nat) ≤ sizeLine := line_big
    refine ⟨_, (pss_cons (ps_set (i := 2) nd rfl (Or.inr rfl) (pe_call F_law_one_of (hr.mono (by omega)) rfl g_law_one_of k_law_one_of b_law_one_of .nil pass0 (pa_cons (pv 0) (pa_cons (pe_lst (pa_cons pe_int (pa_cons pe_int (pa_cons pe_int (pa_cons (pe_op op_sub (pe_op op_pow pe_int pe_int) pe_int) pa_nil))))) pa_nil))))
        (pss_cons (ps_set (i := 3) nd rfl (Or.inl rfl) (pe_callTy (En.call_tupP (K := K) rfl) (by rfl) T.b_tuple (by decide +kernel) (pa_cons (pe_lc (own := [("_law_word", 4)]) rfl nd (pi_list (pv 1)) (blkOk_by (N := ["_law_jug_here", "_law_words", "_law_great", "_law_lengths", "_law_word"]) (sc := defScope (top 40)) (by decide +kernel)) (fun _ _ _ _ _ => (pg_name (i := 4) nd rfl (Or.inl rfl))) (fun _ _ _ _ _ => (pts_one (pt_cmpR op_in_sign pe_str (pv 4) rfl))) (fun _ _ _ _ _ => (pe_op op_add (pe_op op_add pe_int (pe_call F_law_take (hr.mono (by omega)) rfl g_law_take k_law_take b_law_take .nil pass0 (pa_cons (pv 0) (pa_cons pe_int pa_nil)))) (pv 2)))) pa_nil)))
        (pss_one (ps_ret (pe_tup (pa_cons (pe_join pe_str (pv 1)) (pa_cons (pv 3) (pa_cons (pe_op op_add (pe_call F_law_take (hr.mono (by omega)) rfl g_law_take k_law_take b_law_take .nil pass0 (pa_cons (pv 0) (pa_cons pe_int pa_nil))) (pe_call F_law_one_of (hr.mono (by omega)) rfl g_law_one_of k_law_one_of b_law_one_of .nil pass0 (pa_cons (pv 0) (pa_cons (pe_lst (pa_cons pe_int (pa_cons pe_int (pa_cons (pv 2) pa_nil)))) pa_nil)))) pa_nil)))))))), ?_⟩
    refine sq fun U hU => ?_
    walk_at "rd"
    refine ⟨⟨by decide, by decide, by decide⟩, by decide, fun p hp => ?_⟩
    have nf : ∀ {H' : Hp} {a : Addr}, WellAt H' u → H' a = none → a ≠ u := fun w e z => by
      obtain ⟨_, _, _, wh, _⟩ := w
      rw [z, wh] at e; cases e
    have pu := nf hw hp
    have s1 := same_new (o := HO.lst [V.int 0, V.int 0, V.int 0, V.int (10 ^ Int.toNat 30 - 3)]) hp
    have e1 : upd H p (.lst [V.int 0, V.int 0, V.int 0, V.int (10 ^ Int.toNat 30 - 3)]) p = some (.lst [V.int 0, V.int 0, V.int 0, V.int (10 ^ Int.toNat 30 - 3)]) := upd_same
    generalize upd H p (.lst [V.int 0, V.int 0, V.int 0, V.int (10 ^ Int.toNat 30 - 3)]) = H1 at s1 e1 ⊢
    refine ⟨u, .ref p, _, rfl, hw.but s1, (fun z => by injection z with z; exact pu z), .lst e1, by decide, by decide, fun y H2 b2 w2 my => hU _ _ ?_⟩
    clear hU
    obtain ⟨g, rfl, gb⟩ : ∃ g : Nat, y = V.int (g : Nat) ∧ g + 3 ≤ far := by
      simp only [List.mem_cons, List.not_mem_nil, or_false] at my
      rcases my with rfl | rfl | rfl | rfl
      · exact ⟨0, rfl, by decide⟩
      · exact ⟨0, rfl, by decide⟩
      · exact ⟨0, rfl, by decide⟩
      · exact ⟨10 ^ 30 - 3, by decide +kernel, by decide +kernel⟩
    have B2 : But u H H2 := (But.same s1).trans b2
    clear my b2 e1 s1 hp pu
    have ha2 := B2 _ _ au ha
    refine sq fun U hU => ?_
    walk_at "rd"
    refine ⟨⟨_, SqL.of ha2⟩, lc_l (xs := ws.map V.str) (fun D j H' => H2 D = none ∧ ∃ ls, DlP H u D ws j ls H') fun D hD => ⟨⟨hD, [], B2.trans (But.same (same_new hD)), w2.but (same_new hD), upd_same, rfl, fun _ z => nomatch z⟩, fun j H' _ ⟨_, ls, g⟩ => SqL.of (g.b _ _ au ha), ?_, ?_⟩⟩
    · rintro j y H5 hy ⟨hD2, ls, g5⟩
      obtain ⟨wd, hwd, rfl⟩ := map_at hy
      have Du := nf w2 hD2
      have hD0 : H D = none := by
        cases z : H D with
        | none => rfl
        | some o => rw [B2 _ _ Du z] at hD2; cases hD2
      have lj : ls.length ≤ 20 := by
        rw [g5.len]
        refine Nat.le_trans (List.length_filter_le _ _) ?_
        rw [List.length_take]
        omega
      have ef : ((ws.take (j + 1)).filter cellW_).length = ((ws.take j).filter cellW_).length + (if cellW_ wd = true then 1 else 0) := by
        rw [List.take_succ, hwd, List.filter_append, List.length_append]
        congr 1
        show ([wd].filter _).length = _
        rw [List.filter_cons, List.filter_nil]
        split <;> rfl
      unfold Lturn
      walk_at "rd"
      refine ⟨62, rfl, ?_⟩
      by_cases c : 62 ∈ wd.cps.toList
      · rw [if_pos c]
        rw [if_pos (show cellW_ wd = true from decide_eq_true c)] at ef
        refine ⟨u, 3, rfl, g5.w, by decide, by decide, fun t H6 b6 w6 t0 t3 => ⟨t, rfl, _, b6 _ _ Du g5.d, by rw [List.length_map]; omega, hD2, ls ++ [1 + t.toNat + g], fun x o n e => ?_, ?_, ?_, ?_, fun x hx => ?_⟩⟩
        · rw [upd_ne (ne_of_none e hD0)]
          exact b6 _ _ n (g5.b _ _ n e)
        · obtain ⟨a1, a2, a3, ea, r1⟩ := w6
          exact ⟨a1, a2, a3, by rw [upd_ne (Ne.symm Du)]; exact ea, r1⟩
        · rw [upd_same, List.map_append]
          show _ = some (HO.lst (_ ++ [V.int ((1 + t.toNat + g : Nat) : Int)]))
          rw [show ((1 + t.toNat + g : Nat) : Int) = 1 + t + (g : Int) by omega]
        · rw [List.length_append, g5.len, ef]
          rfl
        · rcases List.mem_append.mp hx with hx | hx
          · exact g5.mem x hx
          · rw [List.mem_singleton.mp hx]
            omega
      · rw [if_neg c]
        rw [if_neg (show ¬ cellW_ wd = true by unfold cellW_; rw [decide_eq_false c]; decide)] at ef
        exact ⟨hD2, ls, g5.b, g5.w, g5.d, by rw [g5.len, ef]; rfl, g5.mem⟩
    rintro H5 ⟨hD2, ls, g5⟩
    rw [List.length_map] at g5
    have gl := g5.len
    rw [List.take_length] at gl
    refine ⟨D, rfl, _, SqL.of g5.d, fun l o hl ho => hU _ _ ?_⟩
    clear hU
    have s6 := same_new (o := HO.frz o (.tup (ls.map fun l => V.int (l : Nat)))) hl
    have e6 : SqT K (upd H5 l (.frz o (.tup (ls.map fun l => V.int (l : Nat))))) l (ls.map fun l => V.int (l : Nat)) := .inl (.inr ⟨o, upd_same⟩)
    have w6 := g5.w.but s6
    have B6 : But u H (upd H5 l (.frz o (.tup (ls.map fun l => V.int (l : Nat))))) := g5.b.trans (But.same s6)
    have lu := nf g5.w hl
    have gm := g5.mem
    generalize upd H5 l (.frz o (.tup (ls.map fun l => V.int (l : Nat)))) = H6 at e6 w6 B6 ⊢
    walk_at "rd"
    have ha6 := B6 _ _ au ha
    have s1b : (" ":Str).length = 1 := by decide
    have hs : (ws.map fun x => x.length).sum ≤ 2000 := by
      have := sum_le (fun s : Str => s.length) 100 ws lw2
      omega
    refine ⟨⟨_, rfl⟩, ws, .inl (SqL.of ha6), by rw [s1b]; omega, u, 3, rfl, w6, by decide, by decide, fun t H7 b7 w7 t0 t3 => ⟨by decide, fun p2 hp2 => ?_⟩⟩
    have p2u := nf w7 hp2
    have s8 := same_new (o := HO.lst [V.int 0, V.int 0, V.int (g : Nat)]) hp2
    have e8 : upd H7 p2 (.lst [V.int 0, V.int 0, V.int (g : Nat)]) p2 = some (.lst [V.int 0, V.int 0, V.int (g : Nat)]) := upd_same
    generalize upd H7 p2 (.lst [V.int 0, V.int 0, V.int (g : Nat)]) = H8 at s8 e8 ⊢
    refine ⟨u, .ref p2, _, rfl, w7.but s8, (fun z => by injection z with z; exact p2u z), .lst e8, by simp, by simp, fun y H9 b9 w9 my => ?_⟩
    obtain ⟨g2, rfl, gb2⟩ : ∃ g2 : Nat, y = V.int (g2 : Nat) ∧ g2 + 3 ≤ far := by
      simp only [List.mem_cons, List.not_mem_nil, or_false] at my
      rcases my with rfl | rfl | rfl
      · exact ⟨0, rfl, by decide⟩
      · exact ⟨0, rfl, by decide⟩
      · exact ⟨g, rfl, gb⟩
    refine ⟨t, rfl, _, rfl, by decide, fun r hr0 => ?_⟩
    have B69 : But u H6 H9 := (b7.trans (But.same s8)).trans b9
    have s10 := same_new (o := HO.tup [V.str (Txt.join (Str.ofString " ") ws), V.ref l, V.int (t + (g2 : Int))]) hr0
    have e9 : SqT K H9 l (ls.map fun l => V.int (l : Nat)) := by
      rcases e6 with (h | ⟨o', h⟩) | h
      · exact .inl (.inl (B69 _ _ lu h))
      · exact .inl (.inr ⟨o', B69 _ _ lu h⟩)
      · exact .inr h
    refine k r l ls (t.toNat + g2) _ ((B6.trans B69).trans (But.same s10)) (w9.but s10) ?_ (sqt_up s10 e9) gl gm (by omega)
    rw [upd_same]
    show some (HO.tup [V.str (Txt.join " " ws), V.ref l, V.int (t + (g2 : Int))]) = some (HO.tup [V.str (Txt.join " " ws), V.ref l, V.int ((t.toNat + g2 : Nat) : Int)])
    rw [show ((t.toNat + g2 : Nat) : Int) = t + (g2 : Int) by omega]
end
end K10

set_option Elab.async false
set_option linter.all false
set_option maxRecDepth 100000
set_option maxHeartbeats 4000000
/-! sets of texts: set(list of texts), len, sorted -/
namespace Sts
open PySem PySem.Spec PyProof.Rows L2 Rd Dt PySem.Froz
/-- the payload of a set of the texts l; it can be walked -/
structure TxG (P : Program) (w : World) (D : SD) (l : List Str) : Prop where
  ok : TxOk P w D l
  ris : Ris D.2.2.place.toList
  led : w.params.followText "set-order" = true ∨ D.2.2.led = true
section
variable {P : Program} {w : World} {A : Around} {E : Value → Shared → Prop} {s : Shared}
theorem tail_ris {ep : Nat} {es : Array (Int × Value)} {t : SetTable} {wd : Bool} (h : Ris t.place.toList) : Ris (tailTx ep es t wd).2.2.place.toList := by
  unfold tailTx
  split
  · exact relayAll_ris t es _
  · exact h
theorem tail_led {ep : Nat} {es : Array (Int × Value)} {t : SetTable} {wd : Bool} : (tailTx ep es t wd).2.2.led = t.led := by
  unfold tailTx
  split
  · exact relayAll_led t es _
  · rfl
theorem TxG.add {D : SD} {l : List Str} {k : Str} (u : Tok) (F : TxG P w D l) : TxG P w (addTx (hashStr w k) (.str k u) D) (k :: l) := by
  refine ⟨add_ok u F.ok, ?_, ?_⟩
  · unfold addTx
    refine tail_ris ?_
    have r := layNew_ris D.2.2 D.1 (hashStr w k) (.str k u) F.ris
    split
    · exact r
    · exact r
  · refine F.led.imp id fun e => ?_
    unfold addTx
    rw [tail_led]
    have r := layNew_led D.2.2 D.1 (hashStr w k) (.str k u)
    split
    · exact r.trans e
    · exact r.trans e
/-- a text that is in the set already -/
theorem add_has {a : Addr} {T : String} {D : SD} {l : List Str} {k : Str} {u : Tok} {Q : Bool → Shared → Prop} (ho : s.heap.get? a = some (sObj T D)) (F : TxOk P w D l) (hk : k ∈ l) (hb : l.length < scanBound) (h : Q false s) :
    wpAny (model P w) A (setAddHashed a (.str k u) (hashStr w k)) Q E s := by
  obtain ⟨es, ep, t⟩ := D
  have is : (strKind P w).is k (.str k u) = true := is_str k u
  have sz : es.size = l.length := F.sz
  obtain ⟨e, he, q⟩ := (F.mem k).mp hk
  unfold setAddHashed setAddHashedIn
  refine wpAny_holding (wpAny_bind (wpAny_setState_of ho rfl F.fit ?_))
  show wpAny _ _ (if byScan (.str k u) es then _ else _) _ _ _
  rw [byScan_of (knd := strKind P w) (es := es) rfl (by rw [sz]; exact hb) F.el, if_pos rfl]
  unfold setAddByScan
  refine wpAny_bind (wpAny_bind (wpAny_rule (wpAny_bind (wpAny_setScan_of (knd := strKind P w) (k := k) is ho rfl F.fit F.el ?_))))
  cases f : List.findIdx? (fun e => (strKind P w).is k e.2) es.toList with
  | none =>
    have := List.findIdx?_eq_none_iff.mp f e he
    rw [q] at this
    cases this
  | some j => exact wpAny_pure (wpAny_pure h)
/-- the set at a holds just the texts l, each once -/
def TxR (P : Program) (w : World) (h : Heap) (a : Addr) (l : List Str) : Prop := ∃ D, h.get? a = some (sObj "set" D) ∧ TxG P w D l ∧ l.Nodup ∧ l.length < scanBound
theorem TxR.at {h h' : Heap} {a : Addr} {l : List Str} (R : TxR P w h a l) (k : ∀ o, h.get? a = some o → h'.get? a = some o) : TxR P w h' a l := by
  obtain ⟨D, e, r⟩ := R
  exact ⟨D, k _ e, r⟩
theorem TxR.new {h : Heap} {a : Addr} (e : h.get? a = some (So.emp w)) : TxR P w h a [] := by
  refine ⟨(#[], 0, .fresh 0 0 (!w.params.followText "set-order")), e, ⟨TxOk.nil rfl, List.Pairwise.nil, ?_⟩, List.nodup_nil, by unfold scanBound; decide⟩
  show _ ∨ (!w.params.followText "set-order") = true
  cases w.params.followText "set-order"
  · exact .inr rfl
  · exact .inl rfl
/-- add, whether the text is new or not -/
theorem add_tx {a : Addr} {l : List Str} {k : Str} {u : Tok} {Q : Bool → Shared → Prop} (R : TxR P w s.heap a l) (hb : l.length + 1 < scanBound)
    (h : ∀ b (h' : Heap), (∀ c o, c ≠ a → s.heap.get? c = some o → h'.get? c = some o) → TxR P w h' a (if k ∈ l then l else k :: l) → Q b { s with heap := h' }) :
    wpAny (model P w) A (setAddHashed a (.str k u) (hashStr w k)) Q E s := by
  obtain ⟨D, e, G, nd, lb⟩ := R
  by_cases m : k ∈ l
  · refine add_has e G.ok m lb (h false s.heap (fun _ _ _ q => q) ?_)
    rw [if_pos m]
    exact ⟨D, e, G, nd, lb⟩
  · refine add_x e G.ok m hb (h true _ (fun c o n q => ?_) ?_)
    · rw [Heap.get?_update_other _ _ (Ne.symm n)]
      exact q
    · rw [if_neg m]
      exact ⟨_, get_upd _ e rfl, G.add u, List.nodup_cons.mpr ⟨m, nd⟩, hb⟩
/-- the loop of s.update over texts -/
theorem upd_tx {it : Addr} {fp wr : List Addr} {G : Array GenState → Array GenState → Prop} {n : Nat} {Pv : Nat → Value → Prop} {St : Nat → Shared → Prop} {R : Result → Shared → Prop}
    (W : WalksS P w A.in1 it fp wr G n Pv St) (S : Addr) (hS : S ∉ fp) (xs : List Str) (ln : xs.length = n) (lb : n + 1 < scanBound) (val : ∀ i v, Pv i v → ∃ x t, xs[i]? = some x ∧ v = .str x t) :
    ∀ (m i : Nat) (s : Shared) (l : List Str), n - i = m → i ≤ n → St i s → TxR P w s.heap S l → (∀ y, y ∈ l ↔ y ∈ xs.take i) → l.length ≤ i →
      (∀ (z : Shared) (l' : List Str), Moved (S :: wr) G s z → TxR P w z.heap S l' → (∀ y, y ∈ l' ↔ y ∈ xs) → l'.length ≤ n → R (.ok (.ret .none)) z) →
      codeAny (model P w) A (.builtin "set.update.loop" ⟨[.ref S, .ref it], []⟩) R s := by
  have out : S ∉ wr := fun q => hS (W.sub _ q)
  have more : ∀ b ∈ wr, b ∈ S :: wr := fun b q => List.mem_cons_of_mem _ q
  intro m
  induction m with
  | zero =>
    intro i s l e0 le st tx hl ll fin
    obtain rfl : i = n := by omega
    refine codeAny_builtin F.entry_set_update_loop ?_
    rw [Around.under_plainId F.plain_set_update_loop _]
    refine wpAny_bind (W.done s _ _ st fun z mv => ?_)
    refine wpAny_pure (fin z l (mv.mono more) (tx.at fun o q => mv.heap S o out q) (fun y => ?_) ll)
    rw [hl y, List.take_of_length_le (by omega)]
  | succ m ih =>
    intro i s l e0 le st tx hl ll fin
    have lt : i < n := by omega
    refine codeAny_builtin F.entry_set_update_loop ?_
    rw [Around.under_plainId F.plain_set_update_loop _]
    refine wpAny_bind (W.item i s _ _ lt st fun v z pv st' mv => ?_)
    obtain ⟨x, u, ex, rfl⟩ := val i v pv
    have tx' : TxR P w z.heap S l := tx.at fun o q => mv.heap S o out q
    show wpAny _ A.in1 (holding [Value.str x u] (setAdd S (.str x u)) >>= _) _ _ z
    refine wpAny_bind (wpAny_holding ?_)
    unfold setAdd
    refine wpAny_holding (wpAny_bind ((strKind P w).pyHash (k := x) (is_str x u) ?_))
    refine add_tx (s := { z with toks := z.toks + 1 }) tx' (by omega) fun b h' kp tx2 => ?_
    have lq : (if x ∈ l then l else x :: l).length ≤ i + 1 := by
      split
      · omega
      · exact Nat.succ_le_succ ll
    refine wpAny_pure ⟨plainId_quiet F.plain_set_update_loop _, ih (i + 1) _ _ (by omega) lt (W.frame _ z _ _ st' (Nat.le_succ _) fun c hc o q => kp c o (fun e => hS (e ▸ hc)) q) tx2 (fun y => ?_) lq fun z2 l2 mv2 tx3 hl2 ll2 => ?_⟩
    · rw [List.take_add_one, ex]
      show _ ↔ y ∈ xs.take i ++ [x]
      rw [List.mem_append, List.mem_singleton, ← hl y]
      by_cases q : x ∈ l
      · rw [if_pos q]
        exact ⟨.inl, fun z => z.elim id fun e => e ▸ q⟩
      · rw [if_neg q, List.mem_cons]
        exact Or.comm
    · exact fin z2 l2 (Moved.trans W.gtrans ((mv.mono more).then_heap (Nat.le_succ _) fun c o hc q => kp c o (fun e => hc (e ▸ List.mem_cons_self ..)) q) mv2) tx3 hl2 ll2
set_option maxHeartbeats 8000000 in
theorem set_list {l : Addr} {items : Array Value} (xs : List Str) {Q : Value → Shared → Prop} (hh : A.handled = none) (hl : s.heap.IsList l items) (hit : StrsAre items.toList xs) (hb : xs.length + 1 < scanBound)
    (h : ∀ (h' : Heap) (tk : Nat) (ys : List Str), TxR P w h' s.heap.objs.size ys → (∀ y, y ∈ ys ↔ y ∈ xs) → (∀ b o, s.heap.get? b = some o → h'.get? b = some o) → Q (.ref s.heap.objs.size) { s with heap := h', toks := tk }) :
    wpAny (model P w) A (call (.type "set") [.ref l]) Q E s := by
  have sz : xs.length = items.size := by rw [← StrsAre.len_eq hit, Array.length_toList]
  obtain ⟨c, tl, hmro⟩ := F.called_set.mro
  have q1 := F.called_set.made
  have q2 := F.called_set.sub
  have q3 := F.called_set.notType
  have q4 := F.called_set.canCreate
  have q5 := F.typeCall_set_1 (.ref l)
  refine wpAny_call (codeAny_of_tree ?_)
  show wpAny _ _ (callAny (.type "set") _) _ _ _
  refine wpAny_pure ⟨Code.quiet_builtin _ (by decide +kernel), codeAny_builtin F.entry_type_call ?_⟩
  rw [Around.under_plain (weight_type_call_type "set" [.ref l] []) rfl]
  repeat (any_goals (first | assumption | wp_step))
  refine codeAny_mono (code_set_led1 (.ref l) (E := E) (Q₁ := fun x z => x = .ref s.heap.objs.size ∧ z = { s with heap := s.heap.push (So.emp w) }) ⟨rfl, rfl⟩) fun r z hr => ?_
  cases r with
  | error e => exact hr
  | ok fl =>
    cases fl with
    | ret x =>
      obtain ⟨rfl, rfl⟩ := hr
      have mine : (s.heap.push (So.emp w)).get? s.heap.objs.size = some (So.emp w) := Heap.get?_push_size _ rfl
      have ty : Shared.TypeIs { s with heap := s.heap.push (So.emp w) } (.ref s.heap.objs.size) "set" := ⟨_, mine, rfl⟩
      have q6 := F.called_set.init.lookup
      have q7 := F.called_set.init.bind (.ref s.heap.objs.size)
      repeat (any_goals (first | assumption | wp_step))
      refine codeAny_mono (codeAny_call_builtin (R := wants (fun r z => r = .none ∧ ∃ h' tk ys, z = { s with heap := h', toks := tk } ∧ TxR P w h' s.heap.objs.size ys ∧ (∀ y, y ∈ ys ↔ y ∈ xs) ∧
          ∀ b o, s.heap.get? b = some o → h'.get? b = some o) E) F.called_set.init.plain F.entry_set_init (check_set_init_1 ty ?_)) fun r2 z2 hr2 => ?_
      · obtain ⟨⟨oc, od, oD, os⟩, hol, hcl, nl, hdl⟩ := hl
        simp only at hcl hdl
        subst hcl; subst hdl
        have old : (s.heap.push (So.emp w)).get? l = some { cls := .type "list", dict := od, data := .seq items nl, slots := os } := Heap.get?_push_of_some _ hol
        have q8 := F.sub_list_set
        have q9 := F.sub_list_frozenset
        have q10 : (Value.type "list" == Value.type "dict") = false := by decide
        have isl : (s.heap.push (So.emp w)).IsList l items := ⟨_, old, rfl, nl, rfl⟩
        unfold Builtin.«set.__init__» noKeywords Builtin.Frozenset.updateFrom
        generalize hPI : pyIter = PI
        wp_walk
        subst hPI
        refine wpAny_pyIter_list isl (wpAny_bind (wpAny_runValue ?_))
        have lt := Heap.lt_size hol
        have one : (s.heap.push (So.emp w)).objs.size = s.heap.objs.size + 1 := Heap.size_push ..
        have h3 : A.in1.in1.in1.handled = none := by simp [hh]
        have n1 : l ≠ (s.heap.push (So.emp w)).objs.size := by rw [one]; exact Nat.ne_of_lt (Nat.lt_succ_of_lt lt)
        have n2 : s.heap.objs.size ∉ [(s.heap.push (So.emp w)).objs.size, l] := by
          rw [one]
          intro z
          rcases List.mem_cons.mp z with z | z
          · exact absurd z (Nat.ne_of_lt (Nat.lt_succ_self _))
          · exact absurd (List.mem_singleton.mp z).symm (Nat.ne_of_lt lt)
        refine upd_tx ((Walks.list h3 _ l n1 items).toS) s.heap.objs.size n2 xs sz (by omega) (fun i v hv => ?_) (items.size - 0) 0 _ [] (by omega) (Nat.zero_le _)
          ⟨⟨_, Heap.get?_push_size _ rfl, rfl, rfl⟩, isl.push _⟩ (TxR.new (Heap.get?_push_of_some _ mine)) (fun y => by simp) (Nat.le_refl _) fun z ys mv tx hy _ => ?_
        · have hi : i < xs.length := by rw [sz]; exact (Array.getElem?_eq_some_iff.mp hv).1
          obtain ⟨t, e⟩ := SS.strs_at hit i v (by rw [Array.getElem?_toList]; exact hv)
          refine ⟨xs[i], t, List.getElem?_eq_getElem hi, ?_⟩
          rw [e, List.getD_eq_getElem?_getD, List.getElem?_eq_getElem hi] <;> rfl
        · obtain ⟨h', g', d', tk', os'⟩ := z
          obtain rfl : g' = s.gens := mv.gens
          obtain rfl : d' = s.drawn := mv.drawn
          obtain rfl : os' = s.os := mv.os
          show wpAny _ _ _ _ _ _
          refine wpAny_pure ?_
          show wpAny _ _ (ret Value.none) _ _ _
          refine wpAny_pure ⟨rfl, h', tk', ys, rfl, tx, hy, fun b o e => ?_⟩
          have lb := Heap.lt_size e
          refine mv.heap b o (fun z => ?_) (Heap.get?_push_of_some _ (Heap.get?_push_of_some _ e))
          rcases List.mem_cons.mp z with z | z
          · exact absurd z (Nat.ne_of_lt lb)
          · rw [one] at z
            exact absurd (List.mem_singleton.mp z) (Nat.ne_of_lt (Nat.lt_succ_of_lt lb))
      · cases r2 with
        | error e => exact hr2
        | ok fl2 =>
          cases fl2 with
          | ret r =>
            obtain ⟨rfl, h', tk, ys, rfl, tx, hy, kp⟩ := hr2
            repeat (any_goals (first | assumption | wp_step))
            exact h _ _ _ tx hy kp
          | _ => exact hr2.elim
    | _ => exact hr.elim
end
end Sts

set_option Elab.async false
set_option linter.all false
set_option maxRecDepth 100000
set_option maxHeartbeats 4000000
/-! sets of texts in the layer: set(list), sorted(set) -/
namespace Stt
open PySem PySem.Spec PyProof.Rows L2 Rd Dt PySem.Froz Sts
theorem perm_of {α : Type} [BEq α] [LawfulBEq α] : ∀ (l m : List α), l.Nodup → (∀ x ∈ l, x ∈ m) → m.length = l.length → l.Perm m
  | [], m, _, _, e => by rw [List.eq_nil_of_length_eq_zero e]
  | x :: l, m, nd, sub, e => by
    obtain ⟨nx, nl⟩ := List.nodup_cons.mp nd
    have hx : x ∈ m := sub x (List.mem_cons_self ..)
    have p := List.perm_cons_erase hx
    have le : m.length = l.length + 1 := e
    have q := perm_of l (m.erase x) nl (fun y hy => by
      have hm : y ∈ m := sub y (List.mem_cons_of_mem _ hy)
      rcases List.mem_cons.mp (p.mem_iff.mp hm) with z | z
      · exact absurd (z ▸ hy) nx
      · exact z) (by rw [List.length_erase_of_mem hx]; omega)
    exact (q.cons x).trans p.symm
section
variable {P : Program} {w : World} {A : Around} {E : Value → Shared → Prop} {s : Shared}
theorem TxG.outs {D : SD} {l : List Str} (G : TxG P w D l) (nd : l.Nodup) {vs : List Value} (pm : vs.Perm (D.1.toList.map (·.2))) : ∃ ss, StrsAre vs ss ∧ ss.Perm l := by
  have a : ∀ v ∈ vs, ∃ x t, v = .str x t := fun v hv => by
    obtain ⟨e, he, rfl⟩ := List.mem_map.mp (pm.mem_iff.mp hv)
    obtain ⟨⟨k, hk, _⟩, _⟩ := G.ok.el e he
    obtain ⟨t, q⟩ := Value.isStrOf_shape (show Value.isStrOf k e.2 = true from hk)
    exact ⟨k, t, q⟩
  refine ⟨_, strsAre_map vs a, ?_⟩
  refine (perm_of l (vs.map strOf) nd (fun x hx => ?_) ?_).symm
  · obtain ⟨e, he, hk⟩ := (G.ok.mem x).mp hx
    obtain ⟨t, q⟩ := Value.isStrOf_shape (show Value.isStrOf x e.2 = true from hk)
    refine List.mem_map.mpr ⟨e.2, pm.mem_iff.mpr (List.mem_map.mpr ⟨e, he, rfl⟩), ?_⟩
    rw [q] <;> rfl
  · rw [List.length_map, pm.length_eq, List.length_map, Array.length_toList, G.ok.sz]
/-- sorted(set of texts) -/
theorem sort_tx {a : Addr} {l : List Str} {Q : Value → Shared → Prop} (R : TxR P w s.heap a l) (hh : A.handled = none) (few : l.length < 64)
    (h : ∀ z p (out : Array Value) (c : Nat) (ss : List Str), (∀ b o, s.heap.get? b = some o → z.heap.get? b = some o) → z.gens = s.gens → z.os = s.os → s.heap.objs.size ≤ p →
      z.heap.get? p = some (seqObj "list" out c) → StrsAre out.toList ss → ss.Perm l → sortedS ss = true → Q (.ref p) z) :
    wpAny (model P w) A (call (.builtin "sorted") [.ref a]) Q E s := by
  obtain ⟨D, e, G, nd, lb⟩ := R
  refine Calls.call_function_entry kind_sorted plain_sorted entry_sorted (args_sorted1 _) ?_
  unfold Builtin.«sorted»
  refine wpAny_bind (m := checkCount "sorted" 1 1 _) (wpAny_pure ?_)
  refine wpAny_bind (collect_set (A := A.in1) (es := D.1) (ep := D.2.1) (t := D.2.2) hh ⟨_, e, rfl, rfl⟩ G.ok.fit (by rw [G.ok.sz]; exact lb) G.ris G.led fun z vs kp hz eg eo pm => ?_)
  obtain ⟨ss, hS, ps⟩ := TxG.outs G nd pm
  have vl : vs.length = l.length := by rw [StrsAre.len_eq hS, ps.length_eq]
  refine wpAny_bind (wpAny_newList ?_ (by rw [vl, sizeLine_eq]; omega))
  have mine : (z.heap.push (seqObj "list" vs.toArray 0)).get? z.heap.objs.size = some (seqObj "list" vs.toArray 0) := Heap.get?_push_size _ rfl
  refine wpAny_bind (wpAny_holding (wpAny_call_entry slot_list_sort ⟨_, mine, rfl⟩ entry_list_sort (list_sort_treeK strKind_oneLt mine hS.keysOf (fun u v r e2 => keyKind_strs (by rw [← e2]; exact hS)) (by rw [vl]; exact few)
    fun st hp hs => ⟨_, rfl, ?_⟩) (args_list_sort _)))
  obtain ⟨ss2, h1, h2, h3⟩ := sorted_out_str hS hp hs
  obtain ⟨c, hc⟩ := sortedHeap_at (vs := vs) (out := (arrOf st).map (·.2)) mine
  refine wpAny_pure ⟨_, rfl, h _ z.heap.objs.size _ c ss2 (fun b u q => ?_) eg eo hz hc h1 (h2.trans ps) h3⟩
  have q2 := kp b u q
  have lt := Heap.lt_size q2
  show (sortedHeap (z.heap.push (seqObj "list" vs.toArray 0)) z.heap.objs.size vs _).get? b = some u
  rw [sortedHeap_old (Nat.ne_of_lt lt) (by rw [size_push']; exact Nat.lt_succ_of_lt lt)]
  exact Heap.get?_push_of_some _ q2
end
/-- the set of the texts l at a -/
def TxO (P : Program) (w : World) (a : Addr) (l : List Str) : HO := .ext fun h => TxR P w h a l
section
variable {X : Cx} {K : PySem.W.Frag}
theorem txo_new {P : Program} {w : World} {H : Hp} {h : Heap} {a : Addr} {l : List Str} (R : TxR P w h a l) : ObjOk P w H h a (TxO P w a l) := by
  have ⟨D, e, _⟩ := R
  exact ⟨R, ⟨_, e⟩, fun h1 h2 r k => TxR.at r k⟩
theorem txo_get {pins : List (Addr × Obj)} {σ : L2.St} {H : Hp} {s : Shared} {a : Addr} {l : List Str} (I : Inv X pins σ H s) (ha : H a = some (TxO X.prog X.w a l)) : TxR X.prog X.w s.heap a l := (I.hok a _ ha).1
/-- set(list of texts) -/
def rSetTx (K : PySem.W.Frag) (P : Program) (w : World) : List V → Hp → VK → Prop := fun vs H Q => ∃ (p : Addr) (xs : List Str), vs = [V.ref p] ∧ SqL K H p (xs.map V.str) ∧ xs.length + 1 < scanBound ∧
  ∀ (ys : List Str) (a : Addr), (∀ y, y ∈ ys ↔ y ∈ xs) → ys.Nodup → H a = none → Q (.ref a) (upd H a (TxO P w a ys))
theorem call_setTx (hK : X.K = K) (hc : X.calm = true) {P : Program} {w : World} (hP : X.prog = P) (hw : X.w = w) : CallR X (.type "set") (rSetTx K P w) := by
  subst hK hP hw
  intro pins s σ H xs us Q I r h
  obtain ⟨p, ts, rfl, hq, hz, q⟩ := h
  obtain ⟨u, rfl, rx⟩ := vals1 r
  cases rx
  obtain ⟨its, rv, hl, _⟩ := I.list hq
  refine set_list ts (I.ok.hd hc) hl.isList (by simpa using rv.strs) hz fun h' tk ys R hy kp => ?_
  have ⟨_, _, _, nd, _⟩ := R
  exact ⟨.ref s.heap.objs.size, upd H s.heap.objs.size (TxO X.prog X.w s.heap.objs.size ys), I.laid (t' := tk) kp (Nat.le_refl _) (txo_new R), rfl, q _ _ hy nd (I.hok.fresh (Nat.le_refl _))⟩
/-- sorted(set of texts) -/
def rSortTx (P : Program) (w : World) : List V → Hp → VK → Prop := fun vs H Q => ∃ (a : Addr) (l : List Str), vs = [V.ref a] ∧ H a = some (TxO P w a l) ∧ l.length < 64 ∧
  ∀ (ss : List Str) (p : Addr), ss.Perm l → sortedS ss = true → H p = none → Q (.ref p) (upd H p (.lst (ss.map V.str)))
theorem call_sortTx (hc : X.calm = true) {P : Program} {w : World} (hP : X.prog = P) (hw : X.w = w) : CallR X (.builtin "sorted") (rSortTx P w) := by
  subst hP hw
  intro pins s σ H vs us Q I r h
  obtain ⟨a, l, rfl, ha, few, q⟩ := h
  have R := txo_get I ha
  rw [Vals.ref1 r]
  refine sort_tx R (I.ok.hd hc) few fun z p out c ss kp eg eo hz hp hS pm hs => ?_
  have hn : H p = none := I.hok.fresh hz
  have hlen : (ss.map V.str).length ≤ sizeLine := by rw [List.length_map, pm.length_eq, sizeLine_eq]; omega
  have J : Inv X pins σ (upd H p (.lst (ss.map V.str))) { s with heap := z.heap, gens := z.gens, drawn := z.drawn, toks := z.toks } :=
    I.call (ch := []) (Un.laid kp hz hn) (I.hok.laid kp hz ⟨hlen, out.toList, c, vals_of_strs hS, hp⟩) (by rw [eg]; exact I.bare) (fun _ z => nomatch z)
  have e : z = { s with heap := z.heap, gens := z.gens, drawn := z.drawn, toks := z.toks } := by
    cases z
    cases s
    cases eo
    rfl
  rw [e]
  exact ⟨.ref p, _, J, rfl, q ss p pm hs hn⟩
end
end Stt

set_option Elab.async false
set_option linter.all false
set_option maxRecDepth 100000
set_option maxHeartbeats 4000000
/-! enumerate(text), also in a comprehension; enumerate(list) in a comprehension; sorted(text); set(text); len(set of texts) -/
namespace Es
open PySem PySem.Spec PyProof.Rows L2 Rd Dt Dq Pk En PySem.Froz Sts
/-- the text z, each sign in a new pair -/
def ItE (z : Str) : It :=
  ⟨fun i _ => i < z.cps.size, fun i H v H' => ∃ N c, v = .ref N ∧ H N = none ∧ H' = upd H N (.tup [.int (i : Nat), .str ⟨#[c]⟩]) ∧ z.cps[i]? = some c, fun i _ => i = z.cps.size⟩
theorem turn_strEnum {P : Program} {w : World} {K : PySem.W.Frag} {elts : List Expr} {kk : Nat} {tpos : Pos} (z : Str) (t : Tok) (e it : Addr) :
    Turn P w K (.Tuple elts kk tpos) (ItE z) [e, it] e (fun i h => (∃ old, IsEnum h e it ((i : Nat) : Int) old) ∧ h.IsStrIter it (strIterType z) z t i ∧ e ≠ it) where
  mem := by simp
  obj := fun i h st b hb => by
    obtain ⟨⟨old, h1⟩, ⟨o, g1, g2, g3⟩, _⟩ := st
    rcases (show b = e ∨ b = it by simpa using hb) with z | z
    · subst z; exact ⟨_, h1, fun v q => nomatch q⟩
    · subst z; exact ⟨o, g1, fun v q => by rw [g3] at q; cases q⟩
  keep := fun i h h' st k => by
    obtain ⟨⟨old, h1⟩, ⟨o, g1, g2⟩, h3⟩ := st
    exact ⟨⟨old, k e (by simp) _ h1⟩, ⟨o, k it (by simp) o g1, g2⟩, h3⟩
  item := by
    intro X hP hw hK hc i pins s σ H E I hf st hg
    subst hP hw hK
    obtain ⟨⟨old, h1⟩, h2, n1⟩ := st
    have lt1 : e < s.heap.objs.size := Heap.lt_size h1
    have lt2 : it < s.heap.objs.size := by
      obtain ⟨_, q, _⟩ := h2
      exact Heap.lt_size q
    have D := Draws.text (prog := X.prog) (w := X.w) (A := X.A.in1) (show X.A.in1.handled = none from I.ok.hd hc) it z t
    refine wpAny_pyNext_enum_itemD D h1 h2 hg n1 (by simp [n1]) fun y h' tk py ho hit' hT hsz hk => ?_
    obtain ⟨c, u, hcz, rfl⟩ := py
    refine ⟨_, rfl, wpAny_letOwnedTupleGo_enum (s := { s with heap := h', toks := tk + 1 }) ho fun h2' he' sb => ?_⟩
    have gT : h2'.get? s.heap.objs.size = some { cls := .type "tuple", data := .seq #[.int i tk, .str ⟨#[c]⟩ u] } := (sb.2 _ (Nat.ne_of_gt lt1)).trans hT
    have fresh := I.hok.fresh (Nat.le_refl s.heap.objs.size)
    have okn : ObjOk X.prog X.w (upd H s.heap.objs.size (.tup [.int (i : Nat), .str ⟨#[c]⟩])) h2' s.heap.objs.size (.tup [.int (i : Nat), .str ⟨#[c]⟩]) := ⟨(show 2 ≤ sizeLine by rw [sizeLine_eq]; decide), [.int i tk, .str ⟨#[c]⟩ u], .cons ⟨_, rfl⟩ (.cons ⟨_, rfl⟩ .nil), ⟨_, gT, rfl, _, rfl⟩⟩
    have J : Inv X pins σ (upd H s.heap.objs.size (.tup [.int (i : Nat), .str ⟨#[c]⟩])) { s with heap := h2', toks := tk + 1 } :=
      I.turnedNew (t' := tk + 1) (ch := [e, it]) (fun b ob hb q => (sb.2 b (fun z => hb (by rw [z]; simp))).trans (hk b ob (fun z => hb (by rw [z]; simp)) (fun z => hb (by rw [z]; simp)) q)) hf (Nat.le_refl _) okn
    refine ⟨.ref s.heap.objs.size, _, J, rfl, ⟨_, c, rfl, fresh, rfl, hcz⟩, ⟨⟨_, by rw [show ((i + 1 : Nat) : Int) = (i : Int) + 1 by omega]; exact he'⟩, ?_, n1⟩, fun b hb => ?_⟩
    · obtain ⟨o, g1, g2⟩ := hit'
      exact ⟨o, (sb.2 it (Ne.symm n1)).trans g1, g2⟩
    have lb : b < s.heap.objs.size := by
      rcases (show b = e ∨ b = it by simpa using hb) with z | z
      · rw [z]; exact lt1
      · rw [z]; exact lt2
    rw [upd_ne (Nat.ne_of_lt lb)]
    exact (hf b hb).1
  done := by
    intro X hP hw hK hc i pins s σ H E I hf st hg
    subst hP hw hK
    obtain ⟨⟨old, h1⟩, h2, n1⟩ := st
    have hg : i = z.cps.size := hg
    subst hg
    obtain ⟨f0, f1, f2, f3, f4, f5⟩ := hf it (by simp)
    have D := Draws.text (prog := X.prog) (w := X.w) (A := X.A.in1) (show X.A.in1.handled = none from I.ok.hd hc) it z t
    refine wpAny_pyNext_enum_endD D h1 h2 fun h' eb => ⟨rfl, I.turned (t' := s.toks) (fun b o hb q => eb b o hb q) f0 f1 f3 f4 f5⟩
  self := fun A i s Q E st h => by
    obtain ⟨⟨_, h1⟩, _⟩ := st
    exact wpAny_pyIter_enum h1 h
def iEnumS (ta : TA) : TI := fun σ H R => ta σ H fun vs H1 => ∃ z, vs = [.str z] ∧ R (ItE z) H1
theorem pi_enumS {X : Cx} {e : Expr} {ta : TA} {p pos tpos : Pos} {elts : List Expr} {kk : Nat} (hg : Gl X "enumerate") (hm : X.mg "enumerate" = none) (ha : PA X [e] ta) (hs : starEach [e] X.env = [(false, eval e X.env)] := by rfl) :
    PI X (.Tuple elts kk tpos) (.Call (.Name "enumerate" p) [e] [] pos) (iEnumS ta) := by
  refine ⟨fun pins s σ H R I h => ?_⟩
  refine Call_ (ld_blt I hg hm boot_enumerate (PyProof.Rows.callWith_type1 (thn (ha.run pos pins s σ H _ I h) fun us s1 ⟨vs, H1, I1, r1, q1⟩ => ?_) hs rfl))
  obtain ⟨z, rfl, q⟩ := q1
  cases r1 with
  | cons r rr =>
    cases rr
    obtain ⟨t, rfl⟩ := r
    refine call_enum (begins_text z t) trivial fun h' he hit hk => wpAny_pyIter_enum he ?_
    have I2 : Inv X pins σ H1 { s1 with heap := h' } := I1.kept (t' := s1.toks) hk
    refine ⟨s1.heap.objs.size + 1, [s1.heap.objs.size + 1, s1.heap.objs.size], _, _, H1, rfl, I2, turn_strEnum z t (s1.heap.objs.size + 1) s1.heap.objs.size, ⟨⟨.none, he⟩, ⟨_, hit, rfl, rfl⟩, Nat.succ_ne_self _⟩, fun b hb => ?_, q⟩
    have hle : s1.heap.objs.size ≤ b := by
      rcases (show b = s1.heap.objs.size + 1 ∨ b = s1.heap.objs.size by simpa using hb) with z | z
      · rw [z]; exact Nat.le_succ _
      · rw [z]; exact Nat.le_refl _
    exact I1.fpOk hle (I1.hok.fresh hle)
theorem pi_enumK {X : Cx} {K : PySem.W.Frag} {e : Expr} {ta : TA} {p pos tpos : Pos} {elts : List Expr} {kk : Nat} (hK : X.K = K) (hg : Gl X "enumerate") (hm : X.mg "enumerate" = none) (ha : PA X [e] ta) (hs : starEach [e] X.env = [(false, eval e X.env)] := by rfl) :
    PI X (.Tuple elts kk tpos) (.Call (.Name "enumerate" p) [e] [] pos) (iEnum K ta) := by
  subst hK
  exact pi_enum hg hm ha hs
section
variable {K : PySem.W.Frag} {ta : TA} {g : TG} {tb : TS} {D : Ends} {σ : L2.St} {H : Hp} {tt : TT} {te : TE} {vs : List Nat} {Q : VK}
theorem tLc_enumS : tLc (iEnumS ta) g tt te vs σ H Q = ta σ H fun us H1 => ∃ z, us = [.str z] ∧ tLc (fun _ H R => R (ItE z) H) g tt te vs σ H1 Q := rfl
theorem tLc_enumL : tLc (iEnum K ta) g tt te vs σ H Q = ta σ H fun us H1 => ∃ a xs, us = [.ref a] ∧ SqL K H1 a xs ∧ tLc (fun _ H R => R (Ite K a) H) g tt te vs σ H1 Q := rfl
theorem walk_enumS {z : Str} : Walk (ItE z) z.cps.size (fun _ => True) (fun i H v H' => ∃ N c, v = .ref N ∧ H N = none ∧ H' = upd H N (.tup [.int (i : Nat), .str ⟨#[c]⟩]) ∧ z.cps[i]? = some c) :=
  ⟨fun _ _ hi _ => hi, fun _ _ => rfl, fun _ _ _ _ _ _ y => y⟩
/-- a comprehension over enumerate(text) -/
theorem lc_enumS {z : Str} (Pv : Addr → Nat → Hp → Prop) (h : ∀ D, H D = none → Pv D 0 (upd H D (.lst [])) ∧
      (∀ i c H' N, z.cps.toList[i]? = some c → Pv D i H' → H' N = none → Lturn g tt te vs σ D (.ref N) (upd H' N (.tup [.int (i : Nat), .str ⟨#[c]⟩])) (Pv D (i + 1))) ∧ (∀ H', Pv D z.cps.toList.length H' → Q (.ref D) H')) :
    tLc (fun _ H R => R (ItE z) H) g tt te vs σ H Q := fun D hD => lc_it walk_enumS (Pv D) (h D hD).1 (fun _ _ _ _ => trivial) (fun i x H H' hi hp hy => by
      obtain ⟨N, c, rfl, hN, rfl, hc⟩ := hy
      exact (h D hD).2.1 i c _ N (by rw [Array.getElem?_toList]; exact hc) hp hN) (by
      have := (h D hD).2.2
      rwa [Array.length_toList] at this)
/-- a comprehension over enumerate(list) -/
theorem lc_enumL {a : Addr} {xs : List V} (Pv : Addr → Nat → Hp → Prop) (h : ∀ D, H D = none → Pv D 0 (upd H D (.lst [])) ∧ (∀ i H', i ≤ xs.length → Pv D i H' → SqL K H' a xs) ∧
      (∀ i x H' N, xs[i]? = some x → Pv D i H' → H' N = none → Lturn g tt te vs σ D (.ref N) (upd H' N (.tup [.int (i : Nat), x])) (Pv D (i + 1))) ∧ (∀ H', Pv D xs.length H' → Q (.ref D) H')) :
    tLc (fun _ H R => R (Ite K a) H) g tt te vs σ H Q := fun D hD => lc_it walk_enum (Pv D) (h D hD).1 (h D hD).2.1 (fun i x H H' hi hp hy => by
      obtain ⟨N, u, v, rfl, hN, rfl, hu, hv⟩ := hy
      cases hu
      exact (h D hD).2.2.1 i v _ N hv hp hN) (h D hD).2.2.2
end
/-! ### sorted(text) -/
def sgs (z : Str) : List Str := z.cps.toList.map fun c => ⟨#[c]⟩
section
variable {P : Program} {w : World} {A : Around} {E : Value → Shared → Prop} {s : Shared}
theorem signs_are {acc : Array Value} {z : Str} (h : ItemsOf (SignAt z) acc z.cps.size) : StrsAre acc.toList (sgs z) := by
  have e : acc.toList.map strOf = sgs z := by
    refine List.ext_getElem? fun i => ?_
    unfold sgs
    rw [List.getElem?_map, List.getElem?_map]
    rcases Nat.lt_or_ge i z.cps.size with l | l
    · have la : i < acc.size := by rw [h.1]; exact l
      have e1 : acc.toList[i]? = some acc[i] := by rw [Array.getElem?_toList, Array.getElem?_eq_getElem la]
      obtain ⟨c, u, hc, hv⟩ := h.2 i acc[i] (Array.getElem?_eq_getElem la)
      rw [e1, Array.getElem?_toList, hc, hv]
      rfl
    · rw [List.getElem?_eq_none (by rw [Array.length_toList, h.1]; exact l), List.getElem?_eq_none (by rw [Array.length_toList]; exact l)]
      rfl
  rw [← e]
  refine strsAre_map _ fun v hv => ?_
  obtain ⟨i, hi, rfl⟩ := List.mem_iff_getElem.mp hv
  obtain ⟨c, u, _, q⟩ := h.2 i _ (by rw [← Array.getElem?_toList]; exact List.getElem?_eq_getElem hi)
  exact ⟨_, u, q⟩
end
def rSortSg : List V → Hp → VK → Prop := fun vs H Q => ∃ z : Str, vs = [V.str z] ∧ z.length < 64 ∧
  ∀ (ys : List Str) (p : Addr), ys.Perm (sgs z) → sortedS ys = true → H p = none → Q (.ref p) (upd H p (.lst (ys.map V.str)))
theorem call_sortSg {X : Cx} (hc : X.calm = true) : CallR X (.builtin "sorted") rSortSg := by
  intro pins s σ H vs us Q I r h
  obtain ⟨z, rfl, few, q⟩ := h
  obtain ⟨u, rfl, t, rfl⟩ := vals1 r
  have fe : z.cps.size < 64 := few
  refine Calls.call_function_entry kind_sorted plain_sorted entry_sorted (args_sorted1 _) ?_
  unfold Builtin.«sorted»
  refine wpAny_bind (m := checkCount "sorted" 1 1 _) (wpAny_pure ?_)
  refine wpAny_bind (wpAny_collect_str (A := X.A.in1) (I.ok.hd hc) z t (fun s' acc kp eg ed eo ha => ?_) (by rw [sizeLine_eq]; omega))
  obtain ⟨h', g', d', tk', os'⟩ := s'
  obtain rfl : g' = s.gens := eg
  obtain rfl : d' = s.drawn := ed
  obtain rfl : os' = s.os := eo
  have I1 : Inv X pins σ H { s with heap := h', toks := tk' } := I.kept kp
  have hS := signs_are ha
  have vl : acc.toList.length = z.cps.size := by rw [Array.length_toList, ha.1]
  refine wpAny_bind (wpAny_newList ?_ (by rw [vl, sizeLine_eq]; omega))
  have mine : (h'.push (seqObj "list" acc.toList.toArray 0)).get? h'.objs.size = some (seqObj "list" acc.toList.toArray 0) := Heap.get?_push_size _ rfl
  show wpAny _ _ _ _ _ { s with heap := h'.push (seqObj "list" acc.toList.toArray 0), toks := tk' }
  refine wpAny_bind (wpAny_holding (wpAny_call_entry slot_list_sort ⟨_, mine, rfl⟩ entry_list_sort (list_sort_treeK strKind_oneLt mine hS.keysOf (fun u v r e2 => keyKind_strs (by rw [← e2]; exact hS)) (by rw [vl]; exact fe)
    fun st hp hs => ⟨_, rfl, ?_⟩) (args_list_sort _)))
  obtain ⟨ss2, h1, h2, h3⟩ := sorted_out_str hS hp hs
  obtain ⟨c, hc'⟩ := sortedHeap_at (vs := acc.toList) (out := (arrOf st).map (·.2)) mine
  have hlen : (ss2.map V.str).length ≤ sizeLine := by rw [List.length_map, h2.length_eq]; unfold sgs; rw [List.length_map, Array.length_toList, sizeLine_eq]; omega
  refine wpAny_pure ⟨_, rfl, .ref h'.objs.size, upd H h'.objs.size (.lst (ss2.map V.str)), I1.laid (t' := tk') (fun b u e => ?_) (Nat.le_refl _) ⟨hlen, _, c, vals_of_strs h1, hc'⟩, rfl, q ss2 _ h2 h3 (I1.hok.fresh (Nat.le_refl _))⟩
  have lt : b < h'.objs.size := Heap.lt_size e
  rw [sortedHeap_old (Nat.ne_of_lt lt) (by rw [size_push']; exact Nat.lt_succ_of_lt lt)]
  exact Heap.get?_push_of_some _ e
end Es

set_option Elab.async false
set_option linter.all false
set_option maxRecDepth 100000
set_option maxHeartbeats 2000000
/-! shapes, plain: words, knots, their order -/
namespace Kp
open PySem PySem.Spec PyProof.Rows L2 Sx
/-- a knot: names, sign, next -/
structure Kn where
  nm : Str
  sg : Nat
  nx : Option Nat
deriving DecidableEq
/-- text of signs below 128, not too long -/
def SOk (s : Str) : Prop := s.length ≤ 4000 ∧ ∀ c ∈ s.cps.toList, c < 128
/-! ### a word -/
def cutB (w : Str) (i : Nat) : Bool := decide ((w.cps.toList[i]?).getD 0 ∈ [46, 33, 62])
/-- where signs . ! > stand -/
def cutL (w : Str) : List Nat := (List.range w.cps.toList.length).filter (cutB w)
/-- the number of figures -/
def numD (r : Str) : Nat := ((intText? r).getD 0).toNat
def nmO (w : Str) (c : Nat) : Str := cutS w none (some (c : Int))
def sgO (w : Str) (c : Nat) : Nat := (w.cps.toList[c]?).getD 0
def rsO (w : Str) (c : Nat) : Str := cutS w (some (c + 1 : Nat)) none
def badW (w : Str) (c : Nat) : Prop := nmO w c = "" ∨ decide (sgO w c = 62) ≠ Txt.isdigit (rsO w c) ∨ (sgO w c ≠ 62 ∧ rsO w c ≠ "") ∨ 2 < (rsO w c).length
instance (w : Str) (c : Nat) : Decidable (badW w c) := by unfold badW; infer_instance
def knO (w : Str) (c : Nat) : Kn := ⟨if nmO w c = "-" then ("" : Str) else nmO w c, sgO w c, if sgO w c = 62 then some (numD (rsO w c)) else none⟩
/-- the knot that a word tells -/
def kwF (w : Str) : Option Kn := match cutL w with
  | [] => none
  | c :: _ => if badW w c then none else some (knO w c)
/-- the knots that words tell -/
def allK : List Str → Option (List Kn)
  | [] => some []
  | w :: ws => (kwF w).bind fun k => (allK ws).map fun ks => k :: ks
def kinF (s : Str) : Option (List Kn) := allK (Txt.split s " ")
theorem allK_take {ws : List Str} {ks : List Kn} (h : allK ws = some ks) : ws.map kwF = ks.map some := by
  induction ws generalizing ks with
  | nil => cases h; rfl
  | cons w ws ih =>
    unfold allK at h
    cases e : kwF w with
    | none => rw [e] at h; cases h
    | some k =>
      rw [e] at h
      cases e2 : allK ws with
      | none =>
        have : allK ws = none := e2
        rw [show (some k : Option Kn).bind (fun k => (allK ws).map fun ks => k :: ks) = (allK ws).map fun ks => k :: ks from rfl, this] at h
        cases h
      | some ks' =>
        rw [show (some k : Option Kn).bind (fun k => (allK ws).map fun ks => k :: ks) = (allK ws).map fun ks => k :: ks from rfl, e2] at h
        cases h
        rw [List.map_cons, List.map_cons, e, ih e2]
theorem allK_of {ws : List Str} {ks : List Kn} (h : ws.map kwF = ks.map some) : allK ws = some ks := by
  induction ws generalizing ks with
  | nil =>
    cases ks with
    | nil => rfl
    | cons k ks => cases h
  | cons w ws ih =>
    cases ks with
    | nil => cases h
    | cons k ks =>
      rw [List.map_cons, List.map_cons] at h
      injection h with h1 h2
      unfold allK
      rw [h1, show (some k : Option Kn).bind (fun k => (allK ws).map fun ks => k :: ks) = (allK ws).map fun ks => k :: ks from rfl, ih h2]
      rfl
theorem allK_none {ws : List Str} {w : Str} (m : w ∈ ws) (h : kwF w = none) : allK ws = none := by
  induction ws with
  | nil => cases m
  | cons v ws ih =>
    unfold allK
    rcases List.mem_cons.mp m with rfl | m
    · rw [h]; rfl
    · rw [ih m]
      cases kwF v <;> rfl
theorem cutL_cons {w : Str} {c : Nat} {l : List Nat} (h : cutL w = c :: l) : c < w.cps.toList.length ∧ sgO w c ∈ [46, 33, 62] := by
  have m : c ∈ cutL w := by rw [h]; exact List.mem_cons_self ..
  unfold cutL at m
  rw [List.mem_filter, List.mem_range] at m
  exact ⟨m.1, of_decide_eq_true m.2⟩
/-! ### knots -/
def ltrs (ks : List Kn) : List Nat := ks.flatMap fun k => k.nm.cps.toList
structure KRt (ks : List Kn) : Prop where
  l1 : 1 ≤ (ltrs ks).length
  l4 : (ltrs ks).length ≤ 4
  nd : (ltrs ks).Nodup
  lo : ∀ c ∈ ltrs ks, 97 ≤ c ∧ c ≤ 122
  en : (ks.filter fun k => decide (k.sg = 46)).length ≤ 1
  nx : ∀ k ∈ ks, ∀ n, k.nx = some n → n < ks.length
/-- how many lead to a knot -/
def intoK (ks : List Kn) (j : Nat) : Nat := (ks.filter fun k => decide (k.nx = some j)).length
def needK (ks : List Kn) (i : Nat) : Bool := match ks[i]? with
  | some k => decide (k.nm = "") && decide (k.sg = 62) && decide (intoK ks i < 2)
  | none => false
def Needless (ks : List Kn) : Prop := ∃ i, needK ks i = true
/-- the index of the knot of a letter -/
def plK (ks : List Kn) (c : Nat) : Nat := ks.findIdx fun k => decide (c ∈ k.nm.cps.toList)
def nxK (ks : List Kn) (i : Nat) : Option Nat := (ks[i]?).bind (·.nx)
def srtN (l : List Nat) : List Nat := l.mergeSort fun a b => decide (a ≤ b)
theorem srtN_perm (l : List Nat) : (srtN l).Perm l := List.mergeSort_perm ..
theorem srtN_le (l : List Nat) : (srtN l).Pairwise (· ≤ ·) := by
  have := List.pairwise_mergeSort (le := fun a b : Nat => decide (a ≤ b)) (fun a b c h1 h2 => by
    rw [decide_eq_true_eq] at h1 h2 ⊢
    omega) (fun a b => by
    rw [Bool.or_eq_true, decide_eq_true_eq, decide_eq_true_eq]
    omega) l
  exact this.imp fun h => of_decide_eq_true h
theorem srtN_of {l m : List Nat} (p : l.Perm m) (s : l.Pairwise (· ≤ ·)) : l = srtN m :=
  List.Perm.eq_of_pairwise (le := fun x y : Nat => x ≤ y) (fun a b _ _ q r => by omega) s (srtN_le m) (p.trans (srtN_perm m).symm)
/-- the order of knots -/
def ordK (ks : List Kn) : List Nat := (srtN (ltrs ks)).foldl (fun S c => Kt.folF (nxK ks) (ks.length + 1) (some (plK ks c)) S) []
def strOfL (l : List Nat) : Str := ⟨l.toArray⟩
/-- the word of a knot -/
def wdK (k : Kn) : Str := (if k.nm = "" then ("-" : Str) else strOfL (srtN k.nm.cps.toList)) ++ (⟨#[k.sg]⟩ : Str) ++ (match k.nx with | some n => Ln.numT n | none => ("" : Str))
def shTx (ks : List Kn) : Str := Txt.join " " (ks.map wdK)
structure ShOk (s : Str) (ks : List Kn) : Prop where
  kin : kinF s = some ks
  rt : KRt ks
  nn : ¬ Needless ks
  od : ordK ks = List.range ks.length
  tx : shTx ks = s
open Classical in
/-- the knots of a shape -/
noncomputable def shF (s : Str) : Option (List Kn) := if h : ∃ ks, ShOk s ks then some h.choose else none
theorem shF_of {s : Str} {ks : List Kn} (h : ShOk s ks) : shF s = some ks := by
  unfold shF
  rw [dif_pos ⟨ks, h⟩]
  have h2 := (Exists.choose_spec (⟨ks, h⟩ : ∃ ks, ShOk s ks)).kin
  rw [h.kin] at h2
  exact h2.symm
theorem shF_no {s : Str} (h : ∀ ks, kinF s = some ks → ¬ ShOk s ks) : shF s = none := by
  unfold shF
  exact dif_neg fun ⟨ks, k⟩ => h ks k.kin k
/-! ### figures -/
theorem dig_c : ∀ a : _root_.Fin 128, Unicode.isDigit a.val = true → 48 ≤ a.val ∧ a.val ≤ 57 := by decide +kernel
theorem dig_1 : ∀ a : _root_.Fin 10, intText? ⟨#[48 + a.val]⟩ = some ((a.val : Nat) : Int) := by decide +kernel
theorem dig_2 : ∀ a b : _root_.Fin 10, intText? ⟨#[48 + a.val, 48 + b.val]⟩ = some ((10 * a.val + b.val : Nat) : Int) := by decide +kernel
theorem dig_num {x : Str} (a : ∀ c ∈ x.cps.toList, c < 128) (h : Txt.isdigit x = true) (l : x.length ≤ 2) : ∃ n : Nat, n < 100 ∧ intText? x = some (n : Int) := by
  unfold Txt.isdigit at h
  rw [Bool.and_eq_true, decide_eq_true_eq] at h
  obtain ⟨l0, h⟩ := h
  have h2 : ∀ c ∈ x.cps.toList, 48 ≤ c ∧ c ≤ 57 := fun c hc => by
    have := (Array.all_eq_true_iff_forall_mem.mp h) c (Array.mem_toList_iff.mp hc)
    exact dig_c ⟨c, a c hc⟩ this
  have ex : x = ⟨x.cps.toList.toArray⟩ := by rw [Array.toArray_toList]
  have ln : x.cps.toList.length = x.length := Array.length_toList
  match e : x.cps.toList, h2 with
  | [], _ => rw [e] at ln; rw [← ln] at l0; exact absurd l0 (by decide)
  | [p], h2 =>
    have hp := h2 p (List.mem_cons_self ..)
    have := dig_1 ⟨p - 48, by omega⟩
    rw [ex, e]
    refine ⟨p - 48, by omega, ?_⟩
    have e2 : 48 + (p - 48) = p := by omega
    simp only [e2] at this
    exact this
  | [p, q], h2 =>
    have hp := h2 p (List.mem_cons_self ..)
    have hq := h2 q (List.mem_cons_of_mem _ (List.mem_cons_self ..))
    have := dig_2 ⟨p - 48, by omega⟩ ⟨q - 48, by omega⟩
    rw [ex, e]
    refine ⟨10 * (p - 48) + (q - 48), by omega, ?_⟩
    have e2 : 48 + (p - 48) = p := by omega
    have e3 : 48 + (q - 48) = q := by omega
    simp only [e2, e3] at this
    exact this
  | p :: q :: r :: t, _ => rw [e] at ln; rw [← ln] at l; exact absurd l (by simp)
end Kp

set_option Elab.async false
set_option linter.all false
set_option maxRecDepth 100000
set_option maxHeartbeats 4000000
namespace K10
open PySem PySem.Spec PyProof.Rows L2 Rd Dt Dq Pk Ln En Sx Sy So Sr Lk Rq
local macro_rules | `(tactic| walk_at "rd") => `(tactic| try simp only [↓Lk.tLockE_, ↓Lk.tLock_, ↓Lk.tLc_keys, ↓Lk.tFor_keys, ↓Sy.tTupP_, ↓Sy.rTupP_, ↓Sy.rCatP_, ↓Sy.rSlP_, ↓Sy.rDictT_, ↓Sy.tDGet_, ↓Sy.tDGet1_, ↓Sy.tDIn_, ↓Sy.tDNotIn_, ↓Sy.tMeth_, ↓Sy.tMethKw_, ↓Sy.rSortedS_, ↓Sx.rIsT_, ↓En.tFor_enumT, ↓Sy.tFor_enumL, ↓Rv.tMakeKw_, ↓Prp.tProp_, ↓Lo.tBits_, ↓Lo.tJs_n, ↓Lo.tJs_c, ↓Lo.tFmt_, ↓Lo.gFld_, ↓Lo.tMake_, ↓Lo.rOwn_, ↓Rg.tFor_range3, ↓Rg.tLc_range3, ↓Rg.tLstC_, ↓Rg.tLc_rngV, ↓Le.rNeLE_, ↓Le.rEqLE_, ↓Ls.tLc_str, ↓Ls.sDPut_, ↓Rl.rReprL_, ↓Rl.tCallKS_, ↓Ob.tFld_, ↓Ob.sFld_, ↓tVar_, ↓tC_, ↓tM1, ↓tDNewK_, ↓tOp_, ↓tUn_, ↓rI_, ↓rI0_, ↓rU_, ↓eq_ii, ↓ne_ii, ↓eq_ss, ↓ne_ss, ↓eq_bb, ↓ne_bb, ↓tAndV_, ↓tOrV_, ↓tNotV_, ↓tIf_, ↓tTest_, ↓tB_, ↓tAnd_, ↓tOr_, ↓tNot_, ↓tChain_, ↓tNil_, ↓tCons_, ↓tTup_, ↓tLst_, ↓tCB_, ↓tCall_, ↓tSeq_, ↓tNext_, ↓tRet_, ↓tRetN_, ↓tDrop_, ↓tBreak_, ↓tNever_, ↓tIfS_, ↓tAsg_, ↓gName_, ↓gTup_, ↓gCons_, ↓gNil_, ↓gSub_, ↓tPar_, ↓tPar3_, ↓tSl_, ↓tNoPart_, ↓tPart_, ↓tBM_, ↓tFor_range1, ↓tFor_range2, ↓tFor_list, ↓tFor_tup, L2.start, List.headD_cons, List.headD_nil, List.tail_cons, List.map_cons, List.map_nil, List.length_cons, List.length_nil, List.replicate, List.append_nil, List.nil_append, List.cons_append, List.getElem?_cons_zero, List.getElem?_cons_succ, List.set_cons_zero, List.set_cons_succ, Option.some.injEq, V.int.injEq, V.bl.injEq, V.str.injEq, V.ref.injEq, exists_eq_left, exists_eq_left', exists_eq_right, exists_eq, exists_and_left, and_true, true_and, decide_eq_true_eq, Nat.reduceAdd, Nat.reduceSub, Nat.add_zero, Nat.zero_add, List.cons.injEq, Bool.not_eq_true', decide_eq_false_iff_not, eq_self, reduceCtorEq, Bool.false_eq_true, if_true, if_false, ite_true, ite_false, and_self, ↓tLc_range1, ↓tLc_range2, ↓tLc_list, ↓tLc_tup, ↓tYes_, wipe0, wipe1, ↓tCallS_, ↓rIxL_, ↓rIxT_, ↓rSlL_, ↓rCat_, ↓rSetL_, ↓rRep_, ↓rGcd_, ↓tCallK_, ↓gUnl_, ↓tRaise_, decide_true, decide_false, not_true_eq_false, not_false_eq_true, false_and, or_false, false_or, and_false, and_assoc, exists_const, forall_const, forall_eq'])


section
variable {P : Program} {w : World} {K : PySem.W.Frag} {mg : Str → Option Value} {base : Heap}
/-! ### knots_in -/
open Kp
def nxV : Option Nat → V
  | some n => .int (n : Nat)
  | none => .non
def knV (k : Kn) : List V := [.str k.nm, .str ⟨#[k.sg]⟩, nxV k.nx]
/-- the lists as hold the knots ks -/
def KnL (H : Hp) (as : List Addr) (ks : List Kn) : Prop := as.length = ks.length ∧ ∀ (i : Nat) (A : Addr) (k : Kn), as[i]? = some A → ks[i]? = some k → H A = some (.lst (knV k))
theorem KnL.nil {H : Hp} : KnL H [] [] := ⟨rfl, fun i A k h => by cases h⟩
theorem KnL.keep {H H' : Hp} {as : List Addr} {ks : List Kn} (h : KnL H as ks) (s : ∀ A ∈ as, ∀ o, H A = some o → H' A = some o) : KnL H' as ks :=
  ⟨h.1, fun i A k e1 e2 => s A (List.mem_of_getElem? e1) _ (h.2 i A k e1 e2)⟩
theorem KnL.up {H H' : Hp} {as : List Addr} {ks : List Kn} (h : KnL H as ks) (s : Same H H') : KnL H' as ks := h.keep fun A _ o e => s _ _ e
theorem KnL.put {H : Hp} {as : List Addr} {ks : List Kn} {A : Addr} {k : Kn} (h : KnL H as ks) (e : H A = some (.lst (knV k))) : KnL H (as ++ [A]) (ks ++ [k]) := by
  refine ⟨by rw [List.length_append, List.length_append, h.1]; rfl, fun i B j e1 e2 => ?_⟩
  by_cases c : i < as.length
  · rw [List.getElem?_append_left c] at e1
    rw [List.getElem?_append_left (by rw [← h.1]; exact c)] at e2
    exact h.2 i B j e1 e2
  · rw [List.getElem?_append_right (by omega)] at e1
    rw [List.getElem?_append_right (by rw [← h.1]; omega), ← h.1] at e2
    match i - as.length, e1, e2 with
    | 0, e1, e2 => cases e1; cases e2; exact e
    | j + 1, e1, _ => cases e1
def KnsAt (H : Hp) (a : Addr) (ks : List Kn) : Prop := ∃ as : List Addr, H a = some (.lst (as.map V.ref)) ∧ KnL H as ks
theorem KnsAt.up {H H' : Hp} {a : Addr} {ks : List Kn} (h : KnsAt H a ks) (s : Same H H') : KnsAt H' a ks := by
  obtain ⟨as, e, l⟩ := h
  exact ⟨as, s _ _ e, l.up s⟩
theorem mem_sum {x : Str} : ∀ {ws : List Str}, x ∈ ws → x.length ≤ (ws.map (·.length)).sum
  | w :: ws, h => by
    rw [List.map_cons, List.sum_cons]
    rcases List.mem_cons.mp h with rfl | h
    · exact Nat.le_add_right _ _
    · exact Nat.le_trans (mem_sum h) (Nat.le_add_left _ _)
def spKin : Sp := fun vs H Q _ => ∃ s, vs = [.str s] ∧ SOk s ∧ (kinF s = none → ∀ H', Same H H' → Q .non H') ∧ ∀ a ks H', kinF s = some ks → Same H H' → H a = none → KnsAt H' a ks → Q (.ref a) H'
theorem sc_kin : FnScope ["shape", "found", "word", "sign", "cut", "names", "rest", "place"] ["shape"] (defScope (top 10)) := ⟨rfl, rfl, rfl, by decide +kernel, rfl, by decide +kernel, by decide +kernel⟩
theorem ok_kin {f : Addr} {fd : FuncData} (T : Tx mg) (F : FD K "knots_in" (top 10) f fd) : FnOk P w K mg base CX0 1 f fd ["shape"] spKin := by
  refine F.ok sc_kin (fun vs H Q E h => ?_) (fun cdv A outer s H vs Q E hr h => ?_)
  · obtain ⟨_, rfl, _⟩ := h
    rfl
  · obtain ⟨z, rfl, ⟨zl4, z128⟩, kno, kyes⟩ := h
    have nd := sc_kin.nd
    have zl : (1000000 : Nat) ≤ sizeLine := line_big
    refine ⟨_, (pss_cons (ps_set (i := 1) nd rfl (Or.inl rfl) (pe_lst pa_nil))
        (pss_cons (ps_for (passes_of rfl) rfl (pi_list (pe_split (pv 0) pe_str)) (pg_name (i := 2) nd rfl (Or.inl rfl)) (pss_cons (ps_setLc (i := 4) (own := [("place", 7), ("sign", 3)]) rfl nd rfl rfl (sw_true rfl rfl rfl (by decide +kernel)) (Es.pi_enumS rfl T.b_enumerate (pa_cons (pv 2) pa_nil)) (blkOk_by (N := ["shape", "found", "word", "sign", "cut", "names", "rest", "place"]) (sc := defScope (top 10)) (by decide +kernel)) (fun _ _ _ _ _ => (pg_tupK (K := K) (n := 2) rfl rfl (pgs_cons (pg_name (i := 7) nd rfl (Or.inl rfl) (hf := Or.inr rfl)) (pgs_cons (pg_name (i := 3) nd rfl (Or.inl rfl) (hf := Or.inr rfl)) pgs_nil)) rfl rfl)) (fun _ _ _ _ _ => (pts_one (pt_cmpR op_in_sign (pv 3) pe_str rfl))) (fun _ _ _ _ _ => (pv 7)))
        (pss_cons (ps_if (pt_cmpR (Le.op_eqLEK (K := K) rfl hr.units) (pv 4) (pe_lst pa_nil) (nomark _)) (pss_one (ps_ret pe_non)) pss_nil)
        (pss_cons (ps_par3 rfl nd (i := 5) (j := 3) (l := 6) rfl rfl rfl (by decide) (by decide) (by decide) rfl rfl rfl (pa_cons (pe_slice sl_str (pv 2) po_none (po_some (pe_ix (r := rIxL K) ix_list (pv 4) pe_int (fun _ _ => rfl)))) (pa_cons (pe_item_str (pv 2) (pe_ix (r := rIxL K) ix_list (pv 4) pe_int (fun _ _ => rfl)) (fun _ _ => rfl)) (pa_cons (pe_slice sl_str (pv 2) (po_some (pe_op op_add (pe_ix (r := rIxL K) ix_list (pv 4) pe_int (fun _ _ => rfl)) pe_int)) po_none) pa_nil))) rfl)
        (pss_cons (ps_if (PW.pt (pw_or (pt_cmpR op_eq (pv 5) pe_str (nomark _)) (pw_or (pt_cmpR op_ne (pe_cmpR op_eq (pv 3) pe_str (nomark _)) (pe_m0 PySem.F.slot_str_isdigit PySem.F.type_str_isdigit mt_isdigit (pv 6)) (nomark _)) (pw_or (PW.pt (pw_and (pt_cmpR op_ne (pv 3) pe_str (nomark _)) (pw_and1 (pt_cmpR op_ne (pv 6) pe_str (nomark _))))) (pw_or1 (pt_cmpR op_gt (pe_callB call_len_str (by rfl) T.b_len PySem.boot_len (pa_cons (pv 6) pa_nil)) pe_int (nomark _))))))) (pss_one (ps_ret pe_non)) pss_nil)
        (pss_one (ps_expr (pe_bm PySem.F.plainAttrs_list PySem.F.slot_list_append PySem.F.type_list_append mt_append (pv 1) (pa_cons (pe_lst (pa_cons (pe_ifExp (pt_cmpR op_eq (pv 5) pe_str (nomark _)) pe_str (pv 5)) (pa_cons (pv 3) (pa_cons (pe_ifExp (pt_cmpR op_eq (pv 3) pe_str (nomark _)) (pe_callTy call_int_str (by rfl) T.b_int (by decide +kernel) (pa_cons (pv 6) pa_nil)) pe_non) pa_nil)))) pa_nil)))))))))
        (pss_one (ps_ret (pv 1))))), ?_⟩
    refine sq fun U hU => ?_
    walk_at "rd"
    refine ⟨by omega, fun D hD => hU _ _ ?_⟩
    clear hU
    have s1 := same_new (o := HO.lst []) hD
    have e1 : upd H D (.lst []) D = some (.lst []) := upd_same
    generalize upd H D (.lst []) = H1 at s1 e1 ⊢
    refine sq fun U hU => ?_
    walk_at "rd"
    refine ⟨⟨_, rfl⟩, by decide, by omega, fun L hL => ?_⟩
    generalize hws : Txt.split z (Str.ofString " ") = ws
    have hkin : kinF z = allK ws := by rw [← hws]; rfl
    have e32 : (Str.ofString " ") = ⟨#[32]⟩ := by decide +kernel
    obtain ⟨_, sp1, sp2⟩ := _root_.Sp.split_k z 32 (by decide)
    rw [← e32, hws] at sp1 sp2
    unfold _root_.Sp.jl at sp1
    have wlen : ∀ x ∈ ws, x.length ≤ 4000 ∧ ∀ c ∈ x.cps.toList, c < 128 := fun x hx => by
      refine ⟨?_, fun c hc => z128 c (sp2 x hx c hc)⟩
      have h1 := mem_sum hx
      have h2 : 0 < ws.length := List.length_pos_of_mem hx
      omega
    have wmany : ws.length ≤ 4001 := by omega
    clear hws
    have s2 := same_new (o := HO.lst (ws.map V.str)) hL
    have e2 : upd H1 L (.lst (ws.map V.str)) L = some (.lst (ws.map V.str)) := upd_same
    have eD := s2 _ _ e1
    have LD : L ≠ D := fun q => by rw [q, e1] at hL; cases hL
    have hL0 : H L = none := s1.free hL
    generalize upd H1 L (.lst (ws.map V.str)) = H2 at s2 e2 eD ⊢
    have s02 := s1.trans s2
    refine ⟨_, rfl, ⟨_, SqL.of e2⟩, for_l (xs := ws.map V.str) (fun i σ H' => (∀ x o, x ≠ D → H2 x = some o → H' x = some o) ∧ ∃ (as : List Addr) (ks : List Kn) (y2 y3 y4 y5 y6 y7 : Option V), H' D = some (.lst (as.map V.ref)) ∧ KnL H' as ks ∧ (ws.take i).map kwF = ks.map some ∧ σ = [some (.str z), some (.ref D), y2, y3, y4, y5, y6, y7]) ⟨fun x o _ e => e, [], [], none, none, none, none, none, none, eD, .nil, rfl, rfl⟩ (fun i σ H' _ hp => SqL.of (hp.1 _ _ LD e2)) ?_ ?_⟩
    · rintro i x σ H3 hx ⟨k3, as, ks, y2, y3, y4, y5, y6, y7, hD3, kn3, ek, rfl⟩
      obtain ⟨wd, hwd, rfl⟩ := map_at hx
      obtain ⟨wl, w128⟩ := wlen wd (List.mem_of_getElem? hwd)
      refine sq fun U2 hU2 => ?_
      walk_at "rd"
      rw [Es.tLc_enumS]
      walk_at "rd"
      refine Es.lc_enumS (fun D' j H' => (∀ x o, x ≠ D' → H3 x = some o → H' x = some o) ∧ H' D' = some (.lst ((((List.range j).filter (cutB wd))).map fun n : Nat => V.int n))) fun D' hD' => ⟨⟨fun x o n e => by rw [upd_ne n]; exact e, upd_same⟩, ?_, ?_⟩
      · rintro j c H4 N hc ⟨k4, hD4⟩ hN
        have jl : j < wd.cps.toList.length := (List.getElem?_eq_some_iff.mp hc).1
        have jl2 : wd.cps.toList.length = wd.length := Array.length_toList
        have ND : N ≠ D' := fun q => by rw [q, hD4] at hN; cases hN
        have eN : upd H4 N (.tup [.int (j : Nat), .str ⟨#[c]⟩]) N = some (.tup [.int (j : Nat), .str ⟨#[c]⟩]) := upd_same
        have sN := same_new (o := HO.tup [V.int (j : Nat), V.str ⟨#[c]⟩]) hN
        generalize upd H4 N (.tup [.int (j : Nat), .str ⟨#[c]⟩]) = H5 at eN sN ⊢
        unfold Lturn
        walk_at "rd"
        have hD5 := sN _ _ hD4
        have ec : (c ∈ (Str.ofString ".!>").cps.toList) ↔ cutB wd j = true := by
          unfold cutB
          rw [hc, decide_eq_true_eq]
          have e : (Str.ofString ".!>").cps.toList = [46, 33, 62] := by decide +kernel
          rw [e]
          exact Iff.rfl
        have el : (List.range (j + 1)).filter (cutB wd) = (List.range j).filter (cutB wd) ++ (if cutB wd j = true then [j] else []) := by
          rw [List.range_succ, List.filter_append]
          congr 1
          rw [List.filter_cons, List.filter_nil]
        refine ⟨_, SqT.of eN, rfl, _, _, rfl, _, _, rfl, rfl, c, rfl, ?_⟩
        by_cases q : cutB wd j = true
        · rw [if_pos (ec.mpr q), el, if_pos q]
          refine ⟨_, hD5, ?_, fun x o n e => ?_, ?_⟩
          · rw [List.length_map]
            have := List.length_filter_le (cutB wd) (List.range j)
            rw [List.length_range] at this
            omega
          · rw [upd_ne n]
            exact sN _ _ (k4 _ _ n e)
          · rw [upd_same, List.map_append]
            rfl
        · rw [if_neg (fun h => q (ec.mp h)), el, if_neg q, List.append_nil]
          exact ⟨fun x o n e => sN _ _ (k4 _ _ n e), hD5⟩
      rintro H4 ⟨k4, hD4⟩
      have eC : (List.range wd.cps.toList.length).filter (cutB wd) = cutL wd := rfl
      rw [eC] at hD4
      have b4 : ∀ x o, x ≠ D → H2 x = some o → H4 x = some o := fun x o n e => k4 _ _ (fun q => by rw [q] at n e; have := k3 _ _ n e; rw [hD'] at this; cases this) (k3 _ _ n e)
      have DD' : D ≠ D' := fun q => by rw [← q, hD3] at hD'; cases hD'
      have hDD4 := k4 _ _ DD' hD3
      have kn4 : KnL H4 as ks := ⟨kn3.1, fun i A k e1 e2 => by
        have := kn3.2 i A k e1 e2
        exact k4 _ _ (fun q => by rw [q, hD'] at this; cases this) this⟩
      refine hU2 _ _ ?_
      clear hU2
      refine sq fun U2 hU2 => ?_
      walk_at "rd"
      refine ⟨by omega, fun p5 hp5 => ?_⟩
      have sP := same_new (o := HO.lst []) hp5
      have b5 : ∀ x o, x ≠ D → H2 x = some o → upd H4 p5 (.lst []) x = some o := fun x o n e => sP _ _ (b4 _ _ n e)
      have hD5 := sP _ _ hDD4
      have hC5 := sP _ _ hD4
      have kn5 := kn4.up sP
      have eP : upd H4 p5 (.lst []) p5 = some (.lst []) := upd_same
      generalize upd H4 p5 (.lst []) = H5 at b5 hD5 hC5 kn5 eP ⊢
      have s05 : ∀ x o, H x = some o → H5 x = some o := fun x o e => b5 _ _ (fun q => by rw [q, hD] at e; cases e) (s02 _ _ e)
      have none_ : kwF wd = none → Q .non H5 := fun e => kno (by rw [hkin]; exact allK_none (List.mem_of_getElem? hwd) e) H5 s05
      refine ⟨_, SqL.of hC5, SqL.of eP, ?_⟩
      cases ec : cutL wd with
      | nil =>
        rw [if_pos (by rfl)]
        exact none_ (by unfold kwF; rw [ec])
      | cons c0 cl =>
        rw [if_neg (by simp)]
        obtain ⟨cl0, csg⟩ := cutL_cons ec
        have ew : kwF wd = if badW wd c0 then none else some (knO wd c0) := by unfold kwF; rw [ec]
        rw [ec] at hC5
        have jl2 : wd.cps.toList.length = wd.length := Array.length_toList
        refine hU2 _ _ ?_
        clear hU2
        refine sq fun U2 hU2 => ?_
        walk_at "rd"
        have a0 : atI (List.map (fun n : Nat => V.int n) (c0 :: cl)) 0 = some (.int (c0 : Nat)) := atI_nn (by decide) rfl
        have esg : wd.cps[c0]? = some (sgO wd c0) := by
          rw [← Array.getElem?_toList]
          unfold sgO
          rw [List.getElem?_eq_getElem cl0]
          rfl
        have wz : wd.length ≤ sizeLine := by omega
        refine ⟨_, SqL.of hC5, _, a0, c0, rfl, wd, rfl, wz, _, SqL.of hC5, _, a0, c0, rfl, by omega, by omega, by omega, sgO wd c0, by rw [Int.toNat_natCast]; exact esg, _, SqL.of hC5, _, a0, c0, rfl, wd, rfl, wz, hU2 _ _ ?_⟩
        clear hU2
        have er : cutS wd (some ((c0 : Int) + 1)) none = rsO wd c0 := rfl
        have en : cutS wd none (some (c0 : Int)) = nmO wd c0 := rfl
        rw [er, en]
        have esign : ((⟨#[sgO wd c0]⟩ : Str) = Str.ofString ">") ↔ sgO wd c0 = 62 := by
          have e : (Str.ofString ">") = ⟨#[62]⟩ := by decide +kernel
          rw [e]
          exact ⟨fun h => by injection h with h; injection h with h; injection h, fun h => by rw [h]⟩
        have lr : (rsO wd c0).length ≤ 4000 := Nat.le_trans (cutS_length ..) wl
        have bad : badW wd c0 → Q .non H5 := fun h => none_ (by rw [ew, if_pos h])
        refine sq fun U2 hU2 => ?_
        walk_at "rd"
        simp only [tM0]
        walk_at "rd"
        by_cases g1 : nmO wd c0 = ""
        · rw [if_pos (by exact g1)]
          exact bad (.inl g1)
        rw [if_neg (by exact g1)]
        refine ⟨⟨_, rfl⟩, ?_⟩
        rw [show decide ((⟨#[sgO wd c0]⟩ : Str) = Str.ofString ">") = decide (sgO wd c0 = 62) from decide_eq_decide.mpr esign]
        by_cases g2 : decide (sgO wd c0 = 62) = Txt.isdigit (rsO wd c0)
        rotate_left
        · rw [if_pos g2]
          exact bad (.inr (.inl g2))
        rw [if_neg (fun h => h g2)]
        have lr2 : (rsO wd c0).length ≤ sizeLine := by omega
        suffices go : ((sgO wd c0 ≠ 62 ∧ rsO wd c0 ≠ "") ∧ Q V.non H5) ∨ (¬ (sgO wd c0 ≠ 62 ∧ rsO wd c0 ≠ "") ∧ if (2 : Int) < (rsO wd c0).length then Q V.non H5 else
              U2 [some (V.str z), some (V.ref D), some (V.str wd), some (V.str { cps := #[sgO wd c0] }), some (V.ref D'), some (V.str (nmO wd c0)), some (V.str (rsO wd c0)), y7] H5) by
          rcases go with ⟨⟨h1, h2⟩, q⟩ | ⟨h, q⟩
          · rw [if_pos (fun h => h1 (esign.mp h)), if_pos (by exact h2)]
            exact q
          · by_cases h1 : sgO wd c0 = 62
            · rw [if_neg (fun h => h (esign.mpr h1))]
              exact ⟨lr2, q⟩
            · rw [if_pos (fun h => h1 (esign.mp h)), if_neg (fun h2 => h ⟨h1, h2⟩)]
              exact ⟨lr2, q⟩
        by_cases g3 : sgO wd c0 ≠ 62 ∧ rsO wd c0 ≠ ""
        · exact .inl ⟨g3, bad (.inr (.inr (.inl g3)))⟩
        refine .inr ⟨g3, ?_⟩
        by_cases g4 : 2 < (rsO wd c0).length
        · rw [if_pos (by omega)]
          exact bad (.inr (.inr (.inr g4)))
        rw [if_neg (by omega)]
        have gd : ¬ badW wd c0 := fun h => h.elim g1 fun h => h.elim (fun h => h g2) fun h => h.elim g3 g4
        rw [if_neg gd] at ew
        refine hU2 _ _ ?_
        clear hU2 bad none_
        walk_at "rd"
        have llen : as.length ≤ 4001 := by
          have := congrArg List.length ek
          rw [List.length_map, List.length_map, List.length_take] at this
          rw [kn5.1]
          omega
        have ek2 : List.map kwF (List.take (i + 1) ws) = List.map some (ks ++ [knO wd c0]) := by
          rw [List.take_succ, hwd, List.map_append, ek, List.map_append]
          show _ ++ [kwF wd] = _
          rw [ew]
          rfl
        have fin : ∀ (p : Addr) (xs : List V), H5 p = none → xs = knV (knO wd c0) → rAppend (V.ref D) [V.ref p] (upd H5 p (HO.lst xs)) fun x H1 =>
            (∀ (x : Addr) (o : HO), x ≠ D → H2 x = some o → H1 x = some o) ∧ ∃ as : List Addr, H1 D = some (HO.lst (List.map V.ref as)) ∧ ∃ x, KnL H1 as x ∧ List.map kwF (List.take (i + 1) ws) = List.map some x ∧ ∃ x, y7 = x := fun p xs hp e => by
          subst e
          have s6 := same_new (o := HO.lst (knV (knO wd c0))) hp
          have e6 : upd H5 p (.lst (knV (knO wd c0))) p = some (.lst (knV (knO wd c0))) := upd_same
          have hD6 := s6 _ _ hD5
          have kn6 := (kn5.up s6).put e6
          have b6 : ∀ x o, x ≠ D → H2 x = some o → upd H5 p (.lst (knV (knO wd c0))) x = some o := fun x o n e => s6 _ _ (b5 _ _ n e)
          generalize upd H5 p (.lst (knV (knO wd c0))) = H6 at hD6 kn6 b6 ⊢
          refine ⟨D, _, _, rfl, rfl, hD6, by rw [List.length_map]; omega, fun x o n e => by rw [upd_ne n]; exact b6 _ _ n e, as ++ [p], by rw [upd_same, List.map_append]; rfl, ks ++ [knO wd c0], kn6.keep (fun A hA o e => ?_), ek2, _, rfl⟩
          refine (upd_ne (fun q => ?_)).trans e
          obtain ⟨j, hj⟩ := List.mem_iff_getElem?.mp hA
          have jl := (List.getElem?_eq_some_iff.mp hj).1
          have := kn6.2 j A _ hj (List.getElem?_eq_getElem (by rw [← kn6.1]; exact jl))
          rw [q, hD6] at this
          injection this with this
          injection this with this
          unfold knV at this
          cases as with
          | nil => cases this
          | cons a as => cases this
        have num : sgO wd c0 = 62 → ∃ n : Nat, intText? (rsO wd c0) = some (n : Int) ∧ (rsO wd c0).length ≤ 640 ∧ numD (rsO wd c0) = n := fun h => by
          have r128 : ∀ c ∈ (rsO wd c0).cps.toList, c < 128 := fun c hc => by
            refine w128 c ?_
            have hc : c ∈ (List.take _ (List.drop _ (wd.cps.toList))) := hc
            exact List.mem_of_mem_drop (List.mem_of_mem_take hc)
          obtain ⟨n, _, e⟩ := dig_num (x := rsO wd c0) r128 (by rw [← g2, h]; rfl) (by omega)
          exact ⟨n, e, by omega, by unfold numD; rw [e]; rfl⟩
        refine ⟨.inl ⟨rfl, _, SqL.of hD5⟩, ?_⟩
        have ekn : knV (knO wd c0) = [.str (if nmO wd c0 = "-" then ("" : Str) else nmO wd c0), .str ⟨#[sgO wd c0]⟩, nxV (if sgO wd c0 = 62 then some (numD (rsO wd c0)) else none)] := rfl
        have z3 : 3 ≤ sizeLine := by omega
        by_cases q1 : nmO wd c0 = "-"
        · rw [if_pos (by exact q1)]
          rw [if_pos q1] at ekn
          by_cases q2 : sgO wd c0 = 62
          · rw [if_pos (esign.mpr q2)]
            obtain ⟨n, n1, n2, n3⟩ := num q2
            rw [if_pos q2, n3] at ekn
            exact ⟨_, n1, n2, z3, fun p hp => fin p _ hp ekn.symm⟩
          · rw [if_neg (fun h => q2 (esign.mp h))]
            rw [if_neg q2] at ekn
            exact ⟨z3, fun p hp => fin p _ hp ekn.symm⟩
        · rw [if_neg (by exact q1)]
          rw [if_neg q1] at ekn
          by_cases q2 : sgO wd c0 = 62
          · rw [if_pos (esign.mpr q2)]
            obtain ⟨n, n1, n2, n3⟩ := num q2
            rw [if_pos q2, n3] at ekn
            exact ⟨_, n1, n2, z3, fun p hp => fin p _ hp ekn.symm⟩
          · rw [if_neg (fun h => q2 (esign.mp h))]
            rw [if_neg q2] at ekn
            exact ⟨z3, fun p hp => fin p _ hp ekn.symm⟩
    · rintro σ H3 ⟨k3, as, ks, y2, y3, y4, y5, y6, y7, hD3, kn3, ek, rfl⟩
      refine hU _ _ ?_
      clear hU
      walk_at "rd"
      rw [List.length_map, List.take_length] at ek
      have hk := allK_of ek
      refine kyes D ks H3 (by rw [hkin, hk]) (fun x o e => k3 _ _ (fun q => by rw [q, hD] at e; cases e) (s02 _ _ e)) hD ⟨as, hD3, kn3⟩
end
end K10

set_option Elab.async false
set_option linter.all false
set_option maxRecDepth 100000
set_option maxHeartbeats 4000000
/-! set(text); len(set of texts) -/
namespace Et
open PySem PySem.Spec PyProof.Rows L2 Rd Dt Dq Pk En PySem.Froz Sts Stt Es
theorem walks_text {prog : Program} {w : World} {A : Around} (hh : A.handled = none) (I : Addr) (x : Str) (t : Tok) :
    Walks prog w A I [I] [I] x.cps.size (SignAt x) (fun i h => h.IsStrIter I (strIterType x) x t i) := by
  cases ha : x.cps.all (· < 128)
  · simp only [strIterType, ha, Bool.false_eq_true, if_false]
    exact .strWide hh I x t
  · simp only [strIterType, ha, if_true]
    exact .strAscii hh I x t
section
variable {P : Program} {w : World} {A : Around} {E : Value → Shared → Prop} {s : Shared}
set_option maxHeartbeats 8000000 in
theorem set_text (x : Str) (u : Tok) {Q : Value → Shared → Prop} (hh : A.handled = none) (hb : x.cps.size + 1 < scanBound)
    (h : ∀ (h' : Heap) (tk : Nat) (ys : List Str), TxR P w h' s.heap.objs.size ys → (∀ y, y ∈ ys ↔ y ∈ sgs x) → (∀ b o, s.heap.get? b = some o → h'.get? b = some o) → Q (.ref s.heap.objs.size) { s with heap := h', toks := tk }) :
    wpAny (model P w) A (call (.type "set") [.str x u]) Q E s := by
  have sz : (sgs x).length = x.cps.size := by unfold sgs; rw [List.length_map, Array.length_toList]
  obtain ⟨c, tl, hmro⟩ := F.called_set.mro
  have q1 := F.called_set.made
  have q2 := F.called_set.sub
  have q3 := F.called_set.notType
  have q4 := F.called_set.canCreate
  have q5 := F.typeCall_set_1 (.str x u)
  refine wpAny_call (codeAny_of_tree ?_)
  show wpAny _ _ (callAny (.type "set") _) _ _ _
  refine wpAny_pure ⟨Code.quiet_builtin _ (by decide +kernel), codeAny_builtin F.entry_type_call ?_⟩
  rw [Around.under_plain (weight_type_call_type "set" [.str x u] []) rfl]
  repeat (any_goals (first | assumption | wp_step))
  refine codeAny_mono (code_set_led1 (.str x u) (E := E) (Q₁ := fun x z => x = .ref s.heap.objs.size ∧ z = { s with heap := s.heap.push (So.emp w) }) ⟨rfl, rfl⟩) fun r z hr => ?_
  cases r with
  | error e => exact hr
  | ok fl =>
    cases fl with
    | ret x =>
      obtain ⟨rfl, rfl⟩ := hr
      have mine : (s.heap.push (So.emp w)).get? s.heap.objs.size = some (So.emp w) := Heap.get?_push_size _ rfl
      have ty : Shared.TypeIs { s with heap := s.heap.push (So.emp w) } (.ref s.heap.objs.size) "set" := ⟨_, mine, rfl⟩
      have q6 := F.called_set.init.lookup
      have q7 := F.called_set.init.bind (.ref s.heap.objs.size)
      repeat (any_goals (first | assumption | wp_step))
      refine codeAny_mono (codeAny_call_builtin (R := wants (fun r z => r = .none ∧ ∃ h' tk ys, z = { s with heap := h', toks := tk } ∧ TxR P w h' s.heap.objs.size ys ∧ (∀ y, y ∈ ys ↔ y ∈ sgs x) ∧
          ∀ b o, s.heap.get? b = some o → h'.get? b = some o) E) F.called_set.init.plain F.entry_set_init (check_set_init_1 ty ?_)) fun r2 z2 hr2 => ?_
      · have q8 := F.sub_str_set
        have q9 := F.sub_str_frozenset
        have q10 : (Value.type "str" == Value.type "dict") = false := by decide
        unfold Builtin.«set.__init__» noKeywords Builtin.Frozenset.updateFrom
        generalize hPI : pyIter = PI
        wp_walk
        subst hPI
        refine wpAny_pyIter_strU (wpAny_bind (wpAny_runValue ?_))
        have one : (s.heap.push (So.emp w)).objs.size = s.heap.objs.size + 1 := Heap.size_push ..
        have h3 : A.in1.in1.in1.handled = none := by simp [hh]
        have n2 : s.heap.objs.size ∉ [(s.heap.push (So.emp w)).objs.size] := by
          rw [one]
          intro z
          exact absurd (List.mem_singleton.mp z) (Nat.ne_of_lt (Nat.lt_succ_self _))
        refine upd_tx ((walks_text h3 _ x u).toS) s.heap.objs.size n2 (sgs x) sz (by omega) (fun i v hv => ?_) (x.cps.size - 0) 0 _ [] (by omega) (Nat.zero_le _)
          ⟨_, Heap.get?_push_size _ rfl, rfl, rfl⟩ (TxR.new (Heap.get?_push_of_some _ mine)) (fun y => by simp) (Nat.le_refl _) fun z ys mv tx hy _ => ?_
        · obtain ⟨c, t, hc, rfl⟩ := hv
          refine ⟨_, t, ?_, rfl⟩
          unfold sgs
          rw [List.getElem?_map, Array.getElem?_toList, hc]
          rfl
        · obtain ⟨h', g', d', tk', os'⟩ := z
          obtain rfl : g' = s.gens := mv.gens
          obtain rfl : d' = s.drawn := mv.drawn
          obtain rfl : os' = s.os := mv.os
          show wpAny _ _ _ _ _ _
          refine wpAny_pure ?_
          show wpAny _ _ (ret Value.none) _ _ _
          refine wpAny_pure ⟨rfl, h', tk', ys, rfl, tx, hy, fun b o e => ?_⟩
          have lb := Heap.lt_size e
          refine mv.heap b o (fun z => ?_) (Heap.get?_push_of_some _ (Heap.get?_push_of_some _ e))
          rcases List.mem_cons.mp z with z | z
          · exact absurd z (Nat.ne_of_lt lb)
          · rw [one] at z
            exact absurd (List.mem_singleton.mp z) (Nat.ne_of_lt (Nat.lt_succ_of_lt lb))
      · cases r2 with
        | error e => exact hr2
        | ok fl2 =>
          cases fl2 with
          | ret r =>
            obtain ⟨rfl, h', tk, ys, rfl, tx, hy, kp⟩ := hr2
            repeat (any_goals (first | assumption | wp_step))
            exact h _ _ _ tx hy kp
          | _ => exact hr2.elim
    | _ => exact hr.elim
end
section
variable {X : Cx} {P : Program} {w : World}
def rSetSg (P : Program) (w : World) : List V → Hp → VK → Prop := fun vs H Q => ∃ z : Str, vs = [V.str z] ∧ z.length < 64 ∧
  ∀ (ys : List Str) (a : Addr), (∀ y, y ∈ ys ↔ y ∈ sgs z) → ys.Nodup → H a = none → Q (.ref a) (upd H a (TxO P w a ys))
theorem call_setSg (hc : X.calm = true) (hP : X.prog = P) (hw : X.w = w) : CallR X (.type "set") (rSetSg P w) := by
  subst hP hw
  intro pins s σ H xs us Q I r h
  obtain ⟨z, rfl, hz, q⟩ := h
  obtain ⟨u, rfl, t, rfl⟩ := vals1 r
  have hz : z.cps.size < 64 := hz
  refine set_text z t (I.ok.hd hc) (by unfold scanBound; omega) fun h' tk ys R hy kp => ?_
  have ⟨_, _, _, nd, _⟩ := R
  exact ⟨.ref s.heap.objs.size, upd H s.heap.objs.size (TxO X.prog X.w s.heap.objs.size ys), I.laid (t' := tk) kp (Nat.le_refl _) (txo_new R), rfl, q _ _ hy nd (I.hok.fresh (Nat.le_refl _))⟩
def rLenTx (P : Program) (w : World) : List V → Hp → VK → Prop := fun vs H Q => ∃ (a : Addr) (l : List Str), vs = [V.ref a] ∧ H a = some (TxO P w a l) ∧ Q (.int l.length) H
theorem call_lenTx (hP : X.prog = P) (hw : X.w = w) : CallR X (.builtin "len") (rLenTx P w) := by
  subst hP hw
  intro pins s σ H vs us Q I r h
  obtain ⟨a, l, rfl, ha, q⟩ := h
  obtain ⟨D, e, G, nd, lb⟩ := txo_get I ha
  rw [Vals.ref1 r]
  have sz := G.ok.sz
  have sb : l.length < 2 ^ 40 := Nat.lt_of_lt_of_le lb (by unfold scanBound; decide)
  refine call_len_set (o := sObj "set" D) (es := D.1) (ep := D.2.1) (t := D.2.2) e ⟨rfl, rfl, rfl⟩ rfl G.ok.fit (by rw [sz]; omega) ⟨.int l.length, H, I.tok _, ⟨s.toks + 1, by rw [sz]⟩, q⟩
end
end Et

set_option Elab.async false
set_option linter.all false
/-! l[i] += e, l a list -/
namespace Ag
open PySem PySem.Spec PyProof.Rows L2 Rd
def rGetL (K : PySem.W.Frag) : V → V → Hp → VK → Prop := fun x y H Q => ∃ p xs v, ∃ i : Nat, x = .ref p ∧ y = .int (i : Nat) ∧ SqL K H p xs ∧ xs[i]? = some v ∧ Q v H
theorem get_list {X : Cx} {K : PySem.W.Frag} (hK : X.K = K) : PGet X (rGetL K) := by
  subst hK
  intro pins s σ H o i ov iv Q I r1 r2 h
  obtain ⟨p, xs, z, i, rfl, rfl, hq, he, q⟩ := h
  cases r1
  obtain ⟨t, rfl⟩ := r2
  obtain ⟨its, r, pl, hz⟩ := I.list hq
  obtain ⟨w, ew, rw'⟩ := r.get he
  have hl := r.length
  have hn := line63
  have li : i < its.length := (List.getElem?_eq_some_iff.mp ew).1
  exact wpAny_getItem_list (Q := EP X pins σ Q) pl.isList (by omega) (by omega) (by rw [Int.toNat_natCast]; simpa using ew) ⟨z, H, I, rw', q⟩
end Ag

set_option Elab.async false
set_option linter.all false
/-! for over what is either a list or a tuple -/
namespace It2
open PySem PySem.Spec PyProof.Rows L2
section
variable {X : Cx} {tg : Expr} {K : PySem.W.Frag} {td : TE} {g : TG} {tb : TS} {D : Ends} {σ : L2.St} {H : Hp}
def iSeq (K : PySem.W.Frag) (td : TE) : TI := fun σ H R => td σ H fun x H1 => ∃ a, x = .ref a ∧ ((∃ xs, SqL K H1 a xs ∧ R (Itl K a) H1) ∨ ∃ xs, SqT K H1 a xs ∧ R (Itt K a) H1)
theorem pi_seq {l : Expr} {tl : TE} (hl : PE X l tl) : PI X tg l (iSeq X.K tl) := by
  refine ⟨fun pins s σ H R I h => ?_⟩
  refine thn (hl.run pins s σ H _ I h) fun v s1 ⟨x, H1, I1, r1, q1⟩ => ?_
  obtain ⟨a, e, q⟩ := q1
  subst e
  cases r1
  rcases q with ⟨xs, hq, q⟩ | ⟨xs, hq, q⟩
  · obtain ⟨its, rv, p, hz⟩ := I1.list hq
    refine wpAny_pyIter_list p.isList ?_
    refine ⟨s1.heap.objs.size, [s1.heap.objs.size], _, _, H1, rfl, I1.kept (t' := s1.toks) fun b o e => Heap.get?_push_of_some _ e, turn_list a _, ⟨_, Heap.get?_push_size _ rfl, rfl, rfl⟩, fun b hb => ?_, q⟩
    have e : b = s1.heap.objs.size := by simpa using hb
    subst e
    exact I1.fpOk (Nat.le_refl _) (I1.hok.fresh (Nat.le_refl _))
  · obtain ⟨its, rv, p, hz⟩ := I1.tuple hq
    refine wpAny_pyIter_tuple (show s1.heap.IsTuple a its.toArray from p) ?_
    refine ⟨s1.heap.objs.size, [s1.heap.objs.size], _, _, H1, rfl, I1.kept (t' := s1.toks) fun b o e => Heap.get?_push_of_some _ e, turn_tuple a _, ⟨_, Heap.get?_push_size _ rfl, rfl, rfl⟩, fun b hb => ?_, q⟩
    have e : b = s1.heap.objs.size := by simpa using hb
    subst e
    exact I1.fpOk (Nat.le_refl _) (I1.hok.fresh (Nat.le_refl _))
theorem tFor_seq {ta : TE} : tFor (iSeq K ta) g tb D σ H = ta σ H fun x H1 => ∃ a, x = .ref a ∧ ((∃ xs, SqL K H1 a xs ∧ tFor (fun _ H R => R (Itl K a) H) g tb D σ H1) ∨ ∃ xs, SqT K H1 a xs ∧ tFor (fun _ H R => R (Itt K a) H) g tb D σ H1) := rfl
/-! in comprehensions within comprehensions the frame is named -/
theorem pi_listK {l : Expr} {tl : TE} (hK : X.K = K) (hl : PE X l tl) : PI X tg l (iList K tl) := hK ▸ pi_list hl
def rJoinK (K : PySem.W.Frag) (x : V) (xs : List V) (H : Hp) (Q : VK) : Prop := ∃ a p, ∃ ys : List Str, x = .str a ∧ xs = [.ref p] ∧ (SqL K H p (ys.map V.str) ∨ SqT K H p (ys.map V.str)) ∧ (ys.map (·.length)).sum + ys.length * a.length ≤ 16777216 ∧ Q (.str (Txt.join a ys)) H
theorem pe_joinK {o e : Expr} {to te : TE} {apos pos : Pos} (hK : X.K = K) (ho : PE X o to) (he : PE X e te) (hs : starEach [e] X.env = [(false, eval e X.env)] := by rfl) (hbase : attributeBase o "join" X.env (eval o X.env) = eval o X.env := by rfl) (hline : (apos.endLine == pos.line) = true := by rfl) :
    PE X (.Call (.Attribute o "join" apos) [e] [] pos) (tM1 (rJoinK K) to te) := hK ▸ pe_join ho he hs hbase hline
/-! dict displays -/
theorem tDisp_ {trs : List (TE × TE)} {σ : L2.St} {H : Hp} {Q : VK} : tDisp trs σ H Q = ∀ p, H p = none → tPairs trs σ (upd H p (.dK [])) fun ps H2 => H2 p = some (.dK []) ∧ ∃ kvs : List (Key × V), ps = kvs.map (fun kv => (kV kv.1, kv.2)) ∧ kvs.length ≤ 15 ∧ Q (.ref p) (upd H2 p (.dK (mergeK [] kvs))) := rfl
theorem tPairs_n {σ : L2.St} {H : Hp} {Q : List (V × V) → Hp → Prop} : tPairs [] σ H Q = Q [] H := rfl
theorem tPairs_c {tk tv : TE} {r : List (TE × TE)} {σ : L2.St} {H : Hp} {Q : List (V × V) → Hp → Prop} : tPairs ((tk, tv) :: r) σ H Q = tk σ H fun x H1 => tv σ H1 fun y H2 => tPairs r σ H2 fun ps H3 => Q ((x, y) :: ps) H3 := rfl
theorem tDGet2_ {td ty tx : TE} {σ : L2.St} {H : Hp} {Q : VK} : tDGet2 td ty tx σ H Q = td σ H fun x H1 => ∃ a, x = .ref a ∧ IsD H1 a ∧ ty σ H1 fun y H2 => tx σ H2 fun z H3 => ∃ o, DGet H3 a y o ∧ Q (o.getD z) H3 := rfl
end
end It2

set_option Elab.async false
set_option linter.all false
set_option maxRecDepth 100000
set_option maxHeartbeats 4000000
namespace K10
open PySem PySem.Spec PyProof.Rows L2 Rd Dt Dq Pk Ln En Sx Sy So Sr Lk Rq
local macro_rules | `(tactic| walk_at "rd") => `(tactic| try simp only [↓Lk.tLockE_, ↓Lk.tLock_, ↓Lk.tLc_keys, ↓Lk.tFor_keys, ↓Sy.tTupP_, ↓Sy.rTupP_, ↓Sy.rCatP_, ↓Sy.rSlP_, ↓Sy.rDictT_, ↓Sy.tDGet_, ↓Sy.tDGet1_, ↓Sy.tDIn_, ↓Sy.tDNotIn_, ↓Sy.tMeth_, ↓Sy.tMethKw_, ↓Sy.rSortedS_, ↓Sx.rIsT_, ↓En.tFor_enumT, ↓Sy.tFor_enumL, ↓Rv.tMakeKw_, ↓Prp.tProp_, ↓Lo.tBits_, ↓Lo.tJs_n, ↓Lo.tJs_c, ↓Lo.tFmt_, ↓Lo.gFld_, ↓Lo.tMake_, ↓Lo.rOwn_, ↓Rg.tFor_range3, ↓Rg.tLc_range3, ↓Rg.tLstC_, ↓Rg.tLc_rngV, ↓Le.rNeLE_, ↓Le.rEqLE_, ↓Ls.tLc_str, ↓Ls.sDPut_, ↓Rl.rReprL_, ↓Rl.tCallKS_, ↓Ob.tFld_, ↓Ob.sFld_, ↓tVar_, ↓tC_, ↓tM1, ↓tDNewK_, ↓tOp_, ↓tUn_, ↓rI_, ↓rI0_, ↓rU_, ↓eq_ii, ↓ne_ii, ↓eq_ss, ↓ne_ss, ↓eq_bb, ↓ne_bb, ↓tAndV_, ↓tOrV_, ↓tNotV_, ↓tIf_, ↓tTest_, ↓tB_, ↓tAnd_, ↓tOr_, ↓tNot_, ↓tChain_, ↓tNil_, ↓tCons_, ↓tTup_, ↓tLst_, ↓tCB_, ↓tCall_, ↓tSeq_, ↓tNext_, ↓tRet_, ↓tRetN_, ↓tDrop_, ↓tBreak_, ↓tNever_, ↓tIfS_, ↓tAsg_, ↓gName_, ↓gTup_, ↓gCons_, ↓gNil_, ↓gSub_, ↓tPar_, ↓tPar3_, ↓tSl_, ↓tNoPart_, ↓tPart_, ↓tBM_, ↓tFor_range1, ↓tFor_range2, ↓tFor_list, ↓tFor_tup, L2.start, List.headD_cons, List.headD_nil, List.tail_cons, List.map_cons, List.map_nil, List.length_cons, List.length_nil, List.replicate, List.append_nil, List.nil_append, List.cons_append, List.getElem?_cons_zero, List.getElem?_cons_succ, List.set_cons_zero, List.set_cons_succ, Option.some.injEq, V.int.injEq, V.bl.injEq, V.str.injEq, V.ref.injEq, exists_eq_left, exists_eq_left', exists_eq_right, exists_eq, exists_and_left, and_true, true_and, decide_eq_true_eq, Nat.reduceAdd, Nat.reduceSub, Nat.add_zero, Nat.zero_add, List.cons.injEq, Bool.not_eq_true', decide_eq_false_iff_not, eq_self, reduceCtorEq, Bool.false_eq_true, if_true, if_false, ite_true, ite_false, and_self, ↓tLc_range1, ↓tLc_range2, ↓tLc_list, ↓tLc_tup, ↓tYes_, wipe0, wipe1, ↓tCallS_, ↓rIxL_, ↓rIxT_, ↓rSlL_, ↓rCat_, ↓rSetL_, ↓rRep_, ↓rGcd_, ↓tCallK_, ↓gUnl_, ↓tRaise_, decide_true, decide_false, not_true_eq_false, not_false_eq_true, false_and, or_false, false_or, and_false, and_assoc, exists_const, forall_const, forall_eq'])


section
variable {P : Program} {w : World} {K : PySem.W.Frag} {mg : Str → Option Value} {base : Heap}
/-! ### are_knots_right, has_needless_knot -/
open Kp
theorem joinL_flat : ∀ ls : List (List Nat), TL.joinL [] ls = ls.flatten
  | [] => rfl
  | [x] => by simp [TL.joinL]
  | x :: y :: r => by
    show x ++ ([] ++ TL.joinL [] (y :: r)) = _
    rw [joinL_flat (y :: r)]
    rfl
theorem join_ltrs (ks : List Kn) : (Txt.join (Str.ofString "") (ks.map (·.nm))).cps.toList = ltrs ks := by
  show TL.tl (Txt.join "" _) = _
  rw [TL.join_eq, TL.tl_join, List.map_map]
  show TL.joinL (TL.tl (Str.ofString "")) _ = _
  rw [show TL.tl (Str.ofString "") = [] by decide +kernel, joinL_flat]
  unfold ltrs
  rw [List.flatMap_def]
  rfl
theorem sum_ltrs (ks : List Kn) : ((ks.map (·.nm)).map fun x : Str => x.length).sum = (ltrs ks).length := by
  unfold ltrs
  rw [List.length_flatMap, List.map_map]
  rfl
theorem nodup_le {α : Type} [BEq α] [LawfulBEq α] : ∀ {l m : List α}, l.Nodup → (∀ x ∈ l, x ∈ m) → l.length ≤ m.length
  | [], _, _, _ => Nat.zero_le _
  | x :: l, m, nd, h => by
    have hx := h x (List.mem_cons_self ..)
    have n := List.nodup_cons.mp nd
    have := nodup_le (l := l) (m := m.erase x) n.2 fun y hy => (List.mem_erase_of_ne (fun e => n.1 (by rw [← e]; exact hy))).mpr (h y (List.mem_cons_of_mem _ hy))
    rw [List.length_erase_of_mem hx] at this
    have l0 := List.length_pos_of_mem hx
    rw [List.length_cons]
    omega
theorem nodup_len {α : Type} [BEq α] [LawfulBEq α] {l ys : List α} (h : ∀ y, y ∈ ys ↔ y ∈ l) (nd : ys.Nodup) : ys.length = l.length ↔ l.Nodup := by
  constructor
  · intro e
    exact (Stt.perm_of ys l nd (fun x hx => (h x).mp hx) e.symm).nodup_iff.mp nd
  · intro n
    refine Nat.le_antisymm ?_ ?_
    · exact nodup_le nd fun x hx => (h x).mp hx
    · exact nodup_le n fun x hx => (h x).mpr hx
theorem sgs_nodup {J : Str} : (Es.sgs J).Nodup ↔ J.cps.toList.Nodup := by
  unfold Es.sgs
  constructor
  · intro h
    rw [List.nodup_iff_pairwise_ne, List.pairwise_map] at h
    exact h.imp fun q e => q (by rw [e])
  · intro h
    rw [List.nodup_iff_pairwise_ne, List.pairwise_map]
    exact h.imp fun q e => q (by injection e with e; injection e with e; injection e)
def nxB (ks : List Kn) (k : Kn) : Bool := match k.nx with
  | none => true
  | some n => decide (n < ks.length)
def spRt (P : Program) (w : World) : Sp := fun vs H Q _ => ∃ (a : Addr) (ks : List Kn), vs = [.ref a] ∧ KnsAt H a ks ∧ ks.length ≤ 4001 ∧ (ltrs ks).length ≤ 4001 ∧ ∀ b H', Same H H' → (b = true ↔ KRt ks) → Q (.bl b) H'
theorem sc_rt : FnScope ["knots", "letters", "knot", "letter"] ["knots"] (defScope (top 20)) := ⟨rfl, rfl, rfl, by decide +kernel, rfl, by decide +kernel, by decide +kernel⟩
theorem ok_rt {f : Addr} {fd : FuncData} (T : Tx mg) (F : FD K "are_knots_right" (top 20) f fd) : FnOk P w K mg base CX0 1 f fd ["knots"] (spRt P w) := by
  refine F.ok sc_rt (fun vs H Q E h => ?_) (fun cdv A outer s H vs Q E hr h => ?_)
  · obtain ⟨_, _, rfl, _⟩ := h
    rfl
  · obtain ⟨a, ks, rfl, ⟨as, ha, kn⟩, kl, ll, k⟩ := h
    have nd := sc_rt.nd
    obtain ⟨tmn, hMN⟩ := T.mn
    obtain ⟨tlt, hLET⟩ := T.lets
    have zl : (1000000 : Nat) ≤ sizeLine := line_big
    refine ⟨_, (pss_cons (ps_set (i := 1) nd rfl (Or.inl rfl) (pe_join pe_str (pe_lc (own := [("knot", 2)]) rfl nd (pi_list (pv 0)) (blkOk_by (N := ["knots", "letters", "knot", "letter"]) (sc := defScope (top 20)) (by decide +kernel)) (fun _ _ _ _ _ => (pg_name (i := 2) nd rfl (Or.inl rfl))) (fun _ _ _ _ _ => pts_nil) (fun _ _ _ _ _ => (pe_ix (r := rIxL K) ix_list (pv 2) pe_int (fun _ _ => rfl))))))
        (pss_cons (ps_if (PW.pt (pw_or (pt_not (pt_chain op_le op_le pe_int (pe_callB call_len_str (by rfl) T.b_len PySem.boot_len (pa_cons (pv 1) pa_nil)) (pe_glob (v := .int 4) rfl hMN ⟨_, rfl⟩))) (pw_or1 (pt_cmpR op_ne (pe_callB (Et.call_lenTx (P := P) (w := w) rfl rfl) (by rfl) T.b_len PySem.boot_len (pa_cons (pe_callTy (Et.call_setSg (P := P) (w := w) rfl rfl rfl) (by rfl) T.b_set (by decide +kernel) (pa_cons (pv 1) pa_nil)) pa_nil)) (pe_callB call_len_str (by rfl) T.b_len PySem.boot_len (pa_cons (pv 1) pa_nil)) (nomark _))))) (pss_one (ps_ret pe_bl)) pss_nil)
        (pss_cons (ps_if (pt_cmpR (Le.op_neLEK (K := K) rfl hr.units) (pe_lc (own := [("letter", 3)]) rfl nd (pi_str (pv 1)) (blkOk_by (N := ["knots", "letters", "knot", "letter"]) (sc := defScope (top 20)) (by decide +kernel)) (fun _ _ _ _ _ => (pg_name (i := 3) nd rfl (Or.inl rfl))) (fun _ _ _ _ _ => (pts_one (pt_cmpR op_notIn_sign (pv 3) (pe_glob (v := .str abc) rfl hLET ⟨_, rfl⟩) rfl))) (fun _ _ _ _ _ => (pv 3))) (pe_lst pa_nil) (nomark _)) (pss_one (ps_ret pe_bl)) pss_nil)
        (pss_cons (ps_if (pt_cmpR op_gt (pe_callB (Ck.call_lenK (K := K) rfl) (by rfl) T.b_len PySem.boot_len (pa_cons (pe_lc (own := [("knot", 2)]) rfl nd (pi_list (pv 0)) (blkOk_by (N := ["knots", "letters", "knot", "letter"]) (sc := defScope (top 20)) (by decide +kernel)) (fun _ _ _ _ _ => (pg_name (i := 2) nd rfl (Or.inl rfl))) (fun _ _ _ _ _ => (pts_one (pt_cmpR op_eq (pe_ix (r := rIxL K) ix_list (pv 2) pe_int (fun _ _ => rfl)) pe_str (nomark _)))) (fun _ _ _ _ _ => (pv 2))) pa_nil)) pe_int (nomark _)) (pss_one (ps_ret pe_bl)) pss_nil)
        (pss_one (ps_ret (pe_callB (cr_all rfl) (by rfl) T.b_all (by decide +kernel) (pa_cons (pe_lc (own := [("knot", 2)]) rfl nd (pi_list (pv 0)) (blkOk_by (N := ["knots", "letters", "knot", "letter"]) (sc := defScope (top 20)) (by decide +kernel)) (fun _ _ _ _ _ => (pg_name (i := 2) nd rfl (Or.inl rfl))) (fun _ _ _ _ _ => pts_nil) (fun _ _ _ _ _ => (pe_or (pe_cmpR op_isN (pe_ix (r := rIxL K) ix_list (pv 2) pe_int (fun _ _ => rfl)) pe_non (nomark _)) (pe_one (pe_cmpR op_lt (pe_ix (r := rIxL K) ix_list (pv 2) pe_int (fun _ _ => rfl)) (pe_callB (Ck.call_lenK (K := K) rfl) (by rfl) T.b_len PySem.boot_len (pa_cons (pv 0) pa_nil)) (nomark _)))))) pa_nil)))))))), ?_⟩
    refine sq fun U hU => ?_
    walk_at "rd"
    have kn0 : ∀ i k, ks[i]? = some k → ∃ A, as[i]? = some A ∧ H A = some (.lst (knV k)) := fun i k hk => by
      have il : i < as.length := by rw [kn.1]; exact (List.getElem?_eq_some_iff.mp hk).1
      exact ⟨as[i], List.getElem?_eq_getElem il, kn.2 i _ k (List.getElem?_eq_getElem il) hk⟩
    have nmA : ∀ {H' : Hp} {i : Nat} {x : V}, Same H H' → (as.map V.ref)[i]? = some x → ∃ A k, x = .ref A ∧ ks[i]? = some k ∧ SqL K H' A (knV k) := fun s hx => by
      obtain ⟨A, hA, rfl⟩ := map_at hx
      have il := (List.getElem?_eq_some_iff.mp hA).1
      exact ⟨A, _, rfl, List.getElem?_eq_getElem (by rw [← kn.1]; exact il), SqL.of (s _ _ (kn.2 _ A _ hA (List.getElem?_eq_getElem (by rw [← kn.1]; exact il))))⟩
    refine ⟨⟨_, rfl⟩, ⟨_, SqL.of ha⟩, lc_l (xs := as.map V.ref) (fun D j H' => Same H H' ∧ H' D = some (.lst (((ks.take j).map (·.nm)).map V.str))) fun D hD => ⟨⟨same_new hD, upd_same⟩, fun j H' _ hP => SqL.of (hP.1 _ _ ha), ?_, ?_⟩⟩
    · rintro j x H5 hx ⟨s5, hL5⟩
      obtain ⟨A, kk, rfl, hk, eA⟩ := nmA s5 hx
      unfold Lturn
      walk_at "rd"
      refine ⟨_, eA, _, rfl, _, hL5, ?_, fun b o e => by rw [upd_ne (ne_of_none e hD)]; exact s5 _ _ e, ?_⟩
      · rw [List.length_map, List.length_map, List.length_take]
        omega
      · rw [upd_same, List.take_succ, hk, List.map_append, List.map_append]
        rfl
    rintro H5 ⟨s5, hL5⟩
    rw [List.length_map, kn.1, List.take_length] at hL5
    generalize eJ : Txt.join (Str.ofString "") (ks.map (·.nm)) = J at hU
    have cJ : J.cps.toList = ltrs ks := by rw [← eJ]; exact join_ltrs ks
    have lJ : J.length = (ltrs ks).length := by rw [← cJ]; exact Array.length_toList.symm
    have z0 : (Str.ofString "").length = 0 := by decide
    refine ⟨D, rfl, ks.map (·.nm), .inl (SqL.of hL5), by rw [sum_ltrs, z0]; omega, ?_⟩
    rw [eJ]
    refine hU _ _ ?_
    clear hU
    refine sq fun U hU => ?_
    walk_at "rd"
    have no : ∀ H', Same H H' → ¬ KRt ks → Q (.bl false) H' := fun H' s' n => k false H' s' ⟨fun z => (by cases z), fun z => absurd z n⟩
    have jl : J.length ≤ sizeLine := by omega
    refine ⟨jl, ?_⟩
    by_cases g1 : 1 ≤ (ltrs ks).length
    rotate_left
    · rw [if_neg (by omega)]
      exact no _ s5 fun h => g1 h.l1
    rw [if_pos (by omega)]
    by_cases g2 : (ltrs ks).length ≤ 4
    rotate_left
    · rw [if_pos (by omega)]
      exact no _ s5 fun h => g2 h.l4
    rw [if_neg (by omega)]
    refine ⟨J, rfl, by omega, fun ys S hys nys hS => ⟨S, ys, rfl, upd_same, jl, ?_⟩⟩
    have s6 := s5.trans (same_new (o := Stt.TxO P w S ys) hS)
    generalize upd H5 S (Stt.TxO P w S ys) = H6 at s6 ⊢
    simp only [ne_ii]
    refine ⟨_, rfl, ?_⟩
    have nl := nodup_len hys nys
    rw [show (Es.sgs J).length = J.length by unfold Es.sgs; rw [List.length_map]; exact Array.length_toList, sgs_nodup, cJ] at nl
    by_cases g3 : (ltrs ks).Nodup
    rotate_left
    · rw [if_pos (by rw [Bool.not_eq_true', decide_eq_false_iff_not]; intro e; exact g3 (nl.mp (by omega)))]
      exact no _ s6 fun h => g3 h.nd
    rw [if_neg (by have := nl.mpr g3; rw [Bool.not_eq_true', decide_eq_false_iff_not]; omega)]
    refine hU _ _ ?_
    clear hU
    refine sq fun U hU => ?_
    walk_at "rd"
    refine Ls.lc_s (fun D' j H' => (∀ x o, x ≠ D' → H6 x = some o → H' x = some o) ∧ ∃ xs : List V, H' D' = some (.lst xs) ∧ xs.length ≤ j ∧ (xs = [] ↔ ∀ c ∈ (ltrs ks).take j, c ∈ abc.cps.toList)) fun D' hD' => ⟨⟨fun x o n e => by rw [upd_ne n]; exact e, [], upd_same, Nat.le_refl _, ⟨fun _ c hc => (by cases hc), fun _ => rfl⟩⟩, ?_, ?_⟩
    · rintro j c H7 hc ⟨k7, xs, hD7, xl, xe⟩
      rw [cJ] at hc
      have jl4 := (List.getElem?_eq_some_iff.mp hc).1
      have et : (ltrs ks).take (j + 1) = (ltrs ks).take j ++ [c] := by rw [List.take_succ, hc]; rfl
      unfold Lturn
      walk_at "rd"
      refine ⟨c, rfl, ?_⟩
      by_cases m : c ∈ abc.cps.toList
      · rw [if_neg (fun h => h m)]
        refine ⟨k7, xs, hD7, by omega, ?_⟩
        rw [xe, et]
        simp only [List.mem_append, List.mem_singleton]
        exact ⟨fun h x hx => hx.elim (h x) fun e => by rw [e]; exact m, fun h x hx => h x (.inl hx)⟩
      · rw [if_pos m]
        refine ⟨_, hD7, by omega, fun x o n e => by rw [upd_ne n]; exact k7 _ _ n e, _, upd_same, by rw [List.length_append]; exact Nat.succ_le_succ xl, ⟨fun h => by simp at h, fun h => absurd (h c (by rw [et]; simp)) m⟩⟩
    rintro H7 ⟨k7, xs, hD7, xl, xe⟩
    rw [cJ, List.take_length] at xe
    refine ⟨by omega, fun p8 hp8 => ⟨D', rfl, xs, SqL.of (same_new hp8 _ _ hD7), SqL.of upd_same, ?_⟩⟩
    have s8 : Same H (upd H7 p8 (.lst [])) := fun x o e => same_new hp8 _ _ (k7 _ _ (fun q => by rw [q] at e; rw [s6 _ _ e] at hD'; cases hD') (s6 _ _ e))
    generalize upd H7 p8 (.lst []) = H8 at s8 ⊢
    have eabc : ∀ c, c ∈ abc.cps.toList ↔ 97 ≤ c ∧ c ≤ 122 := fun c => by
      have e : abc.cps.toList = (List.range 26).map (· + 97) := by decide +kernel
      rw [e, List.mem_map]
      constructor
      · rintro ⟨n, hn, rfl⟩
        have := List.mem_range.mp hn
        omega
      · intro h
        exact ⟨c - 97, List.mem_range.mpr (by omega), by omega⟩
    by_cases g4 : xs = []
    rotate_left
    · rw [if_pos g4]
      exact no _ s8 fun h => g4 (xe.mpr fun c hc => (eabc c).mpr (h.lo c hc))
    rw [if_neg (fun h => h g4)]
    have glo : ∀ c ∈ ltrs ks, 97 ≤ c ∧ c ≤ 122 := fun c hc => (eabc c).mp (xe.mp g4 c hc)
    clear xe
    refine hU _ _ ?_
    clear hU
    refine sq fun U hU => ?_
    walk_at "rd"
    refine ⟨⟨_, SqL.of (s8 _ _ ha)⟩, lc_l (xs := as.map V.ref) (fun D' j H' => Same H H' ∧ ∃ xs : List V, H' D' = some (.lst xs) ∧ xs.length = ((ks.take j).filter fun k => decide (k.sg = 46)).length) fun D' hD' => ⟨⟨s8.trans (same_new hD'), [], upd_same, rfl⟩, fun j H' _ hP => SqL.of (hP.1 _ _ ha), ?_, ?_⟩⟩
    · rintro j x H9 hx ⟨s9, xs, hD9, xl⟩
      obtain ⟨A, kk, rfl, hk, eA⟩ := nmA s9 hx
      have D0 : H D' = none := s8.free hD'
      have et : (ks.take (j + 1)).filter (fun k => decide (k.sg = 46)) = (ks.take j).filter (fun k => decide (k.sg = 46)) ++ (if kk.sg = 46 then [kk] else []) := by
        rw [List.take_succ, hk, List.filter_append]
        congr 1
        show [kk].filter _ = _
        rw [List.filter_cons, List.filter_nil]
        by_cases q : kk.sg = 46
        · rw [if_pos (decide_eq_true q), if_pos q]
        · rw [if_neg (by rw [decide_eq_false q]; decide), if_neg q]
      have esg : ((⟨#[kk.sg]⟩ : Str) = Str.ofString ".") ↔ kk.sg = 46 := by
        have e : (Str.ofString ".") = ⟨#[46]⟩ := by decide +kernel
        rw [e]
        exact ⟨fun h => by injection h with h; injection h with h; injection h, fun h => by rw [h]⟩
      unfold Lturn
      walk_at "rd"
      refine ⟨_, eA, _, rfl, ?_⟩
      simp only [eq_ss]
      refine ⟨_, rfl, ?_⟩
      by_cases q : kk.sg = 46
      · rw [if_pos (decide_eq_true (esg.mpr q))]
        refine ⟨_, hD9, ?_, fun x o e => by rw [upd_ne (ne_of_none e D0)]; exact s9 _ _ e, _, upd_same, by rw [List.length_append, xl, et, if_pos q, List.length_append]; rfl⟩
        rw [xl]
        have h1 := List.length_filter_le (fun k : Kn => decide (k.sg = 46)) (ks.take j)
        have h2 := List.length_take_le' j ks
        omega
      · rw [if_neg (by rw [decide_eq_false (fun h => q (esg.mp h))]; decide)]
        exact ⟨s9, xs, hD9, by rw [xl, et, if_neg q, List.append_nil]⟩
    rintro H9 ⟨s9, xs, hD9, xl⟩
    rw [List.length_map, kn.1, List.take_length] at xl
    refine ⟨D', rfl, xs, .inl (SqL.of hD9), ?_⟩
    by_cases g5 : (ks.filter fun k => decide (k.sg = 46)).length ≤ 1
    rotate_left
    · rw [if_pos (by omega)]
      exact no _ s9 fun h => g5 h.en
    rw [if_neg (by omega)]
    clear hD9
    refine hU _ _ ?_
    clear hU
    walk_at "rd"
    refine ⟨⟨_, SqL.of (s9 _ _ ha)⟩, lc_l (xs := as.map V.ref) (fun D' j H' => Same H H' ∧ H' D' = some (.lst (((ks.take j).map (nxB ks)).map V.bl))) fun D' hD' => ⟨⟨s9.trans (same_new hD'), upd_same⟩, fun j H' _ hP => SqL.of (hP.1 _ _ ha), ?_, ?_⟩⟩
    · rintro j x H10 hx ⟨s10, hD10⟩
      obtain ⟨A, kk, rfl, hk, eA⟩ := nmA s10 hx
      have D0 : H D' = none := s9.free hD'
      have fin : ∀ b, b = nxB ks kk → ∃ acc, H10 D' = some (HO.lst acc) ∧ acc.length < sizeLine ∧ Same H (upd H10 D' (HO.lst (acc ++ [V.bl b]))) ∧ upd H10 D' (HO.lst (acc ++ [V.bl b])) D' = some (HO.lst (List.map V.bl (List.map (nxB ks) (List.take (j + 1) ks)))) := fun b e => by
        refine ⟨_, hD10, ?_, fun x o e => by rw [upd_ne (ne_of_none e D0)]; exact s10 _ _ e, ?_⟩
        · rw [List.length_map, List.length_map, List.length_take]
          omega
        · rw [upd_same, List.take_succ, hk, List.map_append, List.map_append, e]
          rfl
      unfold Lturn
      walk_at "rd"
      refine ⟨_, eA, nxV kk.nx, atI_nn (by decide) rfl, ?_⟩
      cases en : kk.nx with
      | none =>
        rw [if_pos (by rfl)]
        exact fin true (by unfold nxB; rw [en])
      | some n =>
        rw [if_neg (fun h => by cases h)]
        have eA2 := eA
        unfold knV at eA2
        rw [en] at eA2
        refine ⟨_, eA2, _, atI_nn (by decide) rfl, _, .inl (SqL.of (s10 _ _ ha)), n, rfl, ?_⟩
        rw [List.length_map, kn.1]
        refine fin _ ?_
        unfold nxB
        rw [en]
        show decide ((n : Int) < (ks.length : Int)) = decide (n < ks.length)
        rw [decide_eq_decide]
        omega
    rintro H10 ⟨s10, hD10⟩
    rw [List.length_map, kn.1, List.take_length] at hD10
    refine ⟨D', _, rfl, SqL.of hD10, k _ _ s10 ?_⟩
    rw [List.all_eq_true]
    constructor
    · intro h
      refine ⟨g1, g2, g3, glo, g5, fun kk hk n hn => ?_⟩
      have := h (nxB ks kk) (List.mem_map_of_mem hk)
      unfold nxB at this
      rw [hn] at this
      exact of_decide_eq_true this
    · intro h b hb
      obtain ⟨kk, hk, rfl⟩ := List.mem_map.mp hb
      unfold nxB
      cases e : kk.nx with
      | none => rfl
      | some n => exact decide_eq_true (h.nx kk hk n e)
/-! has_needless_knot -/
def spNd : Sp := fun vs H Q _ => ∃ (a : Addr) (ks : List Kn), vs = [.ref a] ∧ KnsAt H a ks ∧ ks.length ≤ 4001 ∧ (∀ k ∈ ks, ∀ n, k.nx = some n → n < ks.length) ∧ ∀ b H', Same H H' → (b = true ↔ Needless ks) → Q (.bl b) H'
theorem sc_nd : FnScope ["knots", "entries", "knot", "index"] ["knots"] (defScope (top 21)) := ⟨rfl, rfl, rfl, by decide +kernel, rfl, by decide +kernel, by decide +kernel⟩
theorem ok_nd {f : Addr} {fd : FuncData} (T : Tx mg) (F : FD K "has_needless_knot" (top 21) f fd) : FnOk P w K mg base CX0 1 f fd ["knots"] spNd := by
  refine F.ok sc_nd (fun vs H Q E h => ?_) (fun cdv A outer s H vs Q E hr h => ?_)
  · obtain ⟨_, _, rfl, _⟩ := h
    rfl
  · obtain ⟨a, ks, rfl, ⟨as, ha, kn⟩, kl, nxl, k⟩ := h
    have nd := sc_nd.nd
    have zl : (1000000 : Nat) ≤ sizeLine := line_big
    refine ⟨_, (pss_cons (ps_set (i := 1) nd rfl (Or.inr rfl) (pe_op op_rep (pe_lst (pa_cons pe_int pa_nil)) (pe_callB (Ck.call_lenK (K := K) rfl) (by rfl) T.b_len PySem.boot_len (pa_cons (pv 0) pa_nil))))
        (pss_cons (ps_for (passes_of rfl) rfl (pi_list (pv 0)) (pg_name (i := 2) nd rfl (Or.inl rfl)) (pss_one (ps_if (pt_cmpR op_notN (pe_ix (r := rIxL K) ix_list (pv 2) pe_int (fun _ _ => rfl)) pe_non (nomark _)) (pss_one (ps_augS (pv 1) (pe_ix (r := rIxL K) ix_list (pv 2) pe_int (fun _ _ => rfl)) (Ag.get_list (K := K) rfl) pe_int ip_add set_list)) pss_nil)))
        (pss_one (ps_ret (pe_callB (cr_any rfl) (by rfl) T.b_any (by decide +kernel) (pa_cons (pe_lc (own := [("index", 3), ("knot", 2)]) rfl nd (Es.pi_enumK (K := K) rfl rfl T.b_enumerate (pa_cons (pv 0) pa_nil)) (blkOk_by (N := ["knots", "entries", "knot", "index"]) (sc := defScope (top 21)) (by decide +kernel)) (fun _ _ _ _ _ => (pg_tupK (K := K) (n := 2) rfl rfl (pgs_cons (pg_name (i := 3) nd rfl (Or.inl rfl) (hf := Or.inr rfl)) (pgs_cons (pg_name (i := 2) nd rfl (Or.inl rfl) (hf := Or.inr rfl)) pgs_nil)) rfl rfl)) (fun _ _ _ _ _ => pts_nil) (fun _ _ _ _ _ => (pe_and (pe_cmpR op_eq (pe_ix (r := rIxL K) ix_list (pv 2) pe_int (fun _ _ => rfl)) pe_str (nomark _)) (pe_and (pe_cmpR op_eq (pe_ix (r := rIxL K) ix_list (pv 2) pe_int (fun _ _ => rfl)) pe_str (nomark _)) (pe_one (pe_cmpR op_lt (pe_ix (r := rIxL K) ix_list (pv 1) (pv 3) (fun _ _ => rfl)) pe_int (nomark _))))))) pa_nil)))))), ?_⟩
    refine sq fun U hU => ?_
    walk_at "rd"
    refine ⟨by omega, fun p1 hp1 => ⟨_, .inl (SqL.of (same_new hp1 _ _ ha)), _, upd_same, by omega, ?_, ?_, fun E hE => hU _ _ ?_⟩⟩
    · rw [List.length_map, kn.1]
      omega
    · rw [List.length_map, kn.1]
      simp
      omega
    clear hU
    have s1 := (same_new (o := HO.lst [V.int 0]) hp1).trans (same_new (o := HO.lst (List.replicate (((as.map V.ref).length : Nat) : Int).toNat [V.int 0]).flatten) hE)
    have hE0 : H E = none := (same_new (o := HO.lst [V.int 0]) hp1).free hE
    have e1 : upd (upd H p1 (.lst [.int 0])) E (.lst (List.replicate (((as.map V.ref).length : Nat) : Int).toNat [V.int 0]).flatten) E = some (.lst ((List.range ks.length).map fun i => V.int (intoK (ks.take 0) i : Nat))) := by
      rw [upd_same]
      congr 2
      rw [List.length_map, kn.1, Int.toNat_natCast]
      have : ∀ n, (List.replicate n [V.int 0]).flatten = (List.range n).map fun i => V.int (intoK ([] : List Kn) i : Nat) := fun n => by
        refine List.ext_getElem (by simp) fun i h1 h2 => ?_
        simp [intoK, List.flatten_replicate_singleton]
      exact this _
    generalize upd (upd H p1 (.lst [.int 0])) E (.lst (List.replicate (((as.map V.ref).length : Nat) : Int).toNat [V.int 0]).flatten) = H1 at s1 e1 ⊢
    refine sq fun U hU => ?_
    walk_at "rd"
    refine ⟨⟨_, SqL.of (s1 _ _ ha)⟩, for_l (xs := as.map V.ref) (fun j σ H' => (∀ x o, x ≠ E → H1 x = some o → H' x = some o) ∧ H' E = some (.lst ((List.range ks.length).map fun i => V.int (intoK (ks.take j) i : Nat))) ∧ ∃ y2 y3, σ = [some (.ref a), some (.ref E), y2, y3]) ⟨fun x o _ e => e, e1, none, none, rfl⟩ (fun i σ H' _ hp => SqL.of (hp.1 _ _ (fun q => by rw [q, hE0] at ha; cases ha) (s1 _ _ ha))) ?_ ?_⟩
    · rintro j x σ H2 hx ⟨k2, hE2, y2, y3, rfl⟩
      obtain ⟨A, hA, rfl⟩ := map_at hx
      have il := (List.getElem?_eq_some_iff.mp hA).1
      obtain ⟨kk, hk⟩ : ∃ kk, ks[j]? = some kk := ⟨_, List.getElem?_eq_getElem (by rw [← kn.1]; exact il)⟩
      have eA0 := kn.2 j A kk hA hk
      have eA : SqL K H2 A (knV kk) := SqL.of (k2 _ _ (fun q => by rw [q, hE0] at eA0; cases eA0) (s1 _ _ eA0))
      walk_at "rd"
      have es : ∀ i, intoK (ks.take (j + 1)) i = intoK (ks.take j) i + (if kk.nx = some i then 1 else 0) := fun i => by
        unfold intoK
        rw [List.take_succ, hk, List.filter_append, List.length_append]
        congr 1
        show ([kk].filter _).length = _
        rw [List.filter_cons, List.filter_nil]
        by_cases q : kk.nx = some i
        · rw [if_pos (decide_eq_true q), if_pos q]; rfl
        · rw [if_neg (by rw [decide_eq_false q]; decide), if_neg q]; rfl
      refine ⟨_, eA, nxV kk.nx, atI_nn (by decide) rfl, ?_⟩
      cases en : kk.nx with
      | none =>
        rw [if_neg (fun h => h rfl)]
        refine ⟨k2, ?_, _, rfl⟩
        rw [hE2]
        congr 2
        refine List.map_congr_left fun i _ => ?_
        rw [es, en, if_neg (fun h => by cases h)]
        rfl
      | some n =>
        rw [if_pos (fun h => by cases h)]
        have nl := nxl kk (List.mem_of_getElem? hk) n en
        have eA2 := eA
        unfold knV at eA2
        rw [en] at eA2
        unfold tAugS
        walk_at "rd"
        refine ⟨_, eA2, _, atI_nn (by decide) rfl, ?_⟩
        refine ⟨E, _, V.int (intoK (ks.take j) n : Nat), n, rfl, rfl, SqL.of hE2, by rw [List.getElem?_map, List.getElem?_range nl]; rfl, ?_⟩
        refine ⟨_, _, rfl, rfl, _, n, rfl, hE2, n, ?_, fun x o q e => by rw [upd_ne q]; exact k2 _ _ q e, ?_, _, rfl⟩
        · rw [List.length_map, List.length_range]
          unfold ixN
          rw [if_pos (by omega), if_pos (by omega), Int.toNat_natCast]
        · rw [upd_same]
          congr 2
          refine List.ext_getElem? fun i => ?_
          rw [List.getElem?_set, List.getElem?_map, List.length_map, List.length_range]
          by_cases q : n = i
          · subst q
            rw [if_pos rfl, if_pos nl, List.getElem?_map, List.getElem?_range nl]
            show some _ = some (V.int (intoK (ks.take (j + 1)) n : Nat))
            rw [es, en, if_pos rfl]
            rfl
          · rw [if_neg q]
            rcases Nat.lt_or_ge i ks.length with h | h
            · rw [List.getElem?_range h, List.getElem?_map, List.getElem?_range h]
              show some (V.int (intoK (ks.take j) i : Nat)) = some (V.int (intoK (ks.take (j + 1)) i : Nat))
              rw [es, en, if_neg (fun h => q (Option.some.inj h))]
              rfl
            · rw [List.getElem?_map, List.getElem?_eq_none (show (List.range ks.length).length ≤ i by rw [List.length_range]; exact h)]
              rfl
    rintro σ H2 ⟨k2, hE2, y2, y3, rfl⟩
    rw [List.length_map, kn.1, List.take_length] at hE2
    refine hU _ _ ?_
    clear hU
    walk_at "rd"
    rw [Es.tLc_enumL]
    walk_at "rd"
    have s2 : Same H H2 := fun x o e => k2 _ _ (fun q => by rw [q, hE0] at e; cases e) (s1 _ _ e)
    refine ⟨_, SqL.of (s2 _ _ ha), ?_⟩
    refine Es.lc_enumL (fun D j H' => (Same H2 H' ∧ H2 D = none) ∧ H' D = some (.lst (((List.range j).map (needK ks)).map V.bl))) fun D hD => ⟨⟨⟨same_new hD, hD⟩, upd_same⟩, fun j H' _ hP => SqL.of (hP.1.1 _ _ (s2 _ _ ha)), ?_, ?_⟩
    · rintro j x H3 N hx ⟨⟨s3, hD0⟩, hD3⟩ hN
      obtain ⟨A, hA, rfl⟩ := map_at hx
      have il := (List.getElem?_eq_some_iff.mp hA).1
      obtain ⟨kk, hk⟩ : ∃ kk, ks[j]? = some kk := ⟨_, List.getElem?_eq_getElem (by rw [← kn.1]; exact il)⟩
      have jl := (List.getElem?_eq_some_iff.mp hk).1
      have sN := same_new (o := HO.tup [V.int (j : Nat), V.ref A]) hN
      have eN : upd H3 N (.tup [.int (j : Nat), .ref A]) N = some (.tup [.int (j : Nat), .ref A]) := upd_same
      have eA0 := sN _ _ (s3 _ _ (s2 _ _ (kn.2 j A kk hA hk)))
      have hD4 := sN _ _ hD3
      have hE4 := sN _ _ (s3 _ _ hE2)
      have s4 := s3.trans sN
      generalize upd H3 N (.tup [.int (j : Nat), .ref A]) = H4 at eN eA0 hD4 hE4 s4 ⊢
      have eA : SqL K H4 A (knV kk) := SqL.of eA0
      unfold Lturn
      walk_at "rd"
      have D0 : H D = none := s2.free hD0
      have fin : ∀ b, b = needK ks j → ∃ acc, H4 D = some (HO.lst acc) ∧ acc.length < sizeLine ∧ Same H2 (upd H4 D (HO.lst (acc ++ [V.bl b]))) ∧ H2 D = none ∧ upd H4 D (HO.lst (acc ++ [V.bl b])) D = some (HO.lst (List.map V.bl (List.map (needK ks) (List.range (j + 1))))) := fun b e => by
        refine ⟨_, hD4, ?_, fun x o e => by rw [upd_ne (ne_of_none e hD0)]; exact s4 _ _ e, hD0, ?_⟩
        · rw [List.length_map, List.length_map, List.length_range]
          omega
        · rw [upd_same, List.range_succ, List.map_append, List.map_append, e]
          rfl
      have ne_ : needK ks j = (decide (kk.nm = "") && decide (kk.sg = 62) && decide (intoK ks j < 2)) := by unfold needK; rw [hk]
      have esg : ((⟨#[kk.sg]⟩ : Str) = Str.ofString ">") ↔ kk.sg = 62 := by
        have e : (Str.ofString ">") = ⟨#[62]⟩ := by decide +kernel
        rw [e]
        exact ⟨fun h => by injection h with h; injection h with h; injection h, fun h => by rw [h]⟩
      refine ⟨_, SqT.of eN, rfl, _, _, rfl, _, _, rfl, rfl, A, rfl, _, eA, V.str kk.nm, atI_nn (by decide) rfl, ?_⟩
      simp only [eq_ss]
      refine ⟨_, rfl, ?_⟩
      by_cases q1 : kk.nm = ""
      rotate_left
      · rw [if_neg (by rw [decide_eq_false (by exact q1)]; decide)]
        exact fin false (by rw [ne_, decide_eq_false q1]; rfl)
      rw [if_pos (decide_eq_true (by exact q1))]
      refine ⟨A, rfl, _, eA, V.str ⟨#[kk.sg]⟩, atI_nn (by decide) rfl, ?_⟩
      simp only [eq_ss]
      refine ⟨_, rfl, ?_⟩
      by_cases q2 : kk.sg = 62
      rotate_left
      · rw [if_neg (by rw [decide_eq_false (fun h => q2 (esg.mp h))]; decide)]
        exact fin false (by rw [ne_, decide_eq_false q2, Bool.and_false]; rfl)
      rw [if_pos (decide_eq_true (esg.mpr q2))]
      refine ⟨_, j, rfl, SqL.of hE4, V.int (intoK ks j : Nat), atI_nn (by omega) ?_, _, rfl, ?_⟩
      · rw [Int.toNat_natCast, List.getElem?_map, List.getElem?_range jl]
        rfl
      refine fin _ ?_
      rw [ne_, decide_eq_true q1, decide_eq_true q2]
      show decide ((intoK ks j : Int) < 2) = decide (intoK ks j < 2)
      rw [decide_eq_decide]
      omega
    rintro H3 ⟨⟨s3, hD0⟩, hD3⟩
    rw [List.length_map, kn.1] at hD3
    refine ⟨D, _, rfl, SqL.of hD3, k _ _ (s2.trans s3) ?_⟩
    rw [List.any_eq_true]
    constructor
    · rintro ⟨b, hb, e⟩
      obtain ⟨i, _, rfl⟩ := List.mem_map.mp hb
      exact ⟨i, e⟩
    · rintro ⟨i, e⟩
      refine ⟨_, List.mem_map.mpr ⟨i, List.mem_range.mpr ?_, rfl⟩, e⟩
      rcases Nat.lt_or_ge i ks.length with h | h
      · exact h
      · unfold needK at e
        rw [List.getElem?_eq_none h] at e
        cases e
end
end K10

set_option Elab.async false
set_option linter.all false
set_option maxRecDepth 100000
/-! dicts of numbers with True; dicts of letters with numbers -/
namespace Tk
open PySem PySem.Spec PyProof.Rows L2 Rd Dt Sx
def tK (p : Nat) : Key × V := (.inl p, .bl true)
theorem t_any (ps : List Nat) (k : Nat) : (ps.map tK).any (fun p => decide (p.1 = (.inl (k : Int) : Key))) = decide (k ∈ ps) := by
  rw [List.any_map, Bool.eq_iff_iff, List.any_eq_true, decide_eq_true_eq]
  constructor
  · rintro ⟨x, hx, e⟩
    have : (Sum.inl (x : Int) : Key) = .inl (k : Int) := of_decide_eq_true e
    injection this with this
    rw [← Int.ofNat.inj this]
    exact hx
  · intro hx
    exact ⟨k, hx, decide_eq_true rfl⟩
theorem t_look (ps : List Nat) (k : Nat) : (valV (ps.map tK) (.inl (k : Int) : Key)).isSome = decide (k ∈ ps) := by
  rw [← t_any]
  unfold valV
  rw [Option.isSome_map, Bool.eq_iff_iff, List.find?_isSome, List.any_eq_true]
theorem t_put (ps : List Nat) (k : Nat) : putK (ps.map tK) (.inl (k : Int)) (.bl true) = (if k ∈ ps then ps else ps ++ [k]).map tK := by
  unfold putK
  rw [t_any]
  by_cases c : k ∈ ps
  · rw [if_pos (decide_eq_true c), if_pos c, List.map_map]
    refine List.map_congr_left fun x _ => ?_
    show (if (Sum.inl (x : Int) : Key) = .inl (k : Int) then _ else _) = tK x
    split <;> rfl
  · rw [if_neg (by rw [decide_eq_false c]; decide), if_neg c, List.map_append]; rfl
theorem get_t {H : Hp} {d : Addr} {ps : List Nat} (h : H d = some (.dK (ps.map tK))) (k : Nat) : ∃ o, DGet H d (.int k) o ∧ o.isSome = decide (k ∈ ps) := ⟨_, DGet.k (k := Sum.inl (k : Int)) h, t_look ps k⟩
theorem n_put {l : List (Nat × Nat)} {c i : Nat} (h : c ∉ l.map (·.1)) : putK (l.map nk) (.inr (L1 c)) (.int (i : Nat)) = (l ++ [(c, i)]).map nk := by
  unfold putK
  rw [if_neg, List.map_append]
  · rfl
  · intro z
    rw [List.any_map, List.any_eq_true] at z
    obtain ⟨x, hx, e⟩ := z
    have e : (Sum.inr (L1 x.1) : Key) = .inr (L1 c) := of_decide_eq_true e
    injection e with e
    injection e with e
    injection e with e
    injection e with e
    exact h (by rw [← e]; exact List.mem_map_of_mem hx)
theorem n_get : ∀ {l : List (Nat × Nat)} {c i : Nat}, (l.map (·.1)).Nodup → (c, i) ∈ l → valV (l.map nk) (.inr (L1 c)) = some (.int (i : Nat))
  | (d, j) :: l, c, i, nd, m => by
    rw [List.map_cons] at nd ⊢
    obtain ⟨n1, n2⟩ := List.nodup_cons.mp nd
    by_cases e : d = c
    · subst e
      rw [valV_pos (show (nk (d, j)).1 = .inr (L1 d) from rfl)]
      rcases List.mem_cons.mp m with m | m
      · cases m; rfl
      · exact absurd (List.mem_map_of_mem (f := (·.1)) m) n1
    · rw [valV_neg (fun z => by injection z with z; injection z with z; injection z with z; injection z with z; exact e z)]
      rcases List.mem_cons.mp m with m | m
      · cases m; exact absurd rfl e
      · exact n_get n2 m
theorem c_put {l : List (Nat × Nat)} {c i : Nat} (h : c ∉ l.map (·.1)) : putK (l.map ck) (.inl (c : Int)) (.int (i : Nat)) = (l ++ [(c, i)]).map ck := by
  unfold putK
  rw [if_neg, List.map_append]
  · rfl
  · intro z
    rw [List.any_map, List.any_eq_true] at z
    obtain ⟨x, hx, e⟩ := z
    have e : (Sum.inl (x.1 : Int) : Key) = .inl (c : Int) := of_decide_eq_true e
    injection e with e
    exact h (by rw [← Int.ofNat.inj e]; exact List.mem_map_of_mem hx)
theorem c_get : ∀ {l : List (Nat × Nat)} {c i : Nat}, (l.map (·.1)).Nodup → (c, i) ∈ l → valV (l.map ck) (.inl (c : Int)) = some (.int (i : Nat))
  | (d, j) :: l, c, i, nd, m => by
    rw [List.map_cons] at nd ⊢
    obtain ⟨n1, n2⟩ := List.nodup_cons.mp nd
    by_cases e : d = c
    · subst e
      rw [valV_pos (show (ck (d, j)).1 = .inl (d : Int) from rfl)]
      rcases List.mem_cons.mp m with m | m
      · cases m; rfl
      · exact absurd (List.mem_map_of_mem (f := (·.1)) m) n1
    · rw [valV_neg (fun z => by injection z with z; exact e (Int.ofNat.inj z))]
      rcases List.mem_cons.mp m with m | m
      · cases m; exact absurd rfl e
      · exact c_get n2 m
end Tk

set_option Elab.async false
set_option linter.all false
set_option maxRecDepth 100000
set_option maxHeartbeats 2000000
/-! d != {} -/
namespace De
open PySem PySem.Spec PyProof.Rows L2
section
variable {K : PySem.W.Frag} {σ : L2.St} {H H' : Hp} {ta : TE} {g : TG} {tb : TS} {D : Ends}
theorem tFor_str : tFor (iStr ta) g tb D σ H = ta σ H fun v H1 => ∃ x, v = .str x ∧ tFor (fun _ H R => R (Its x) H) g tb D σ H1 := rfl
theorem for_s {z : Str} (Pv : Nat → L2.St → Hp → Prop) (h0 : Pv 0 σ H) (hs : ∀ i c σ H, z.cps.toList[i]? = some c → Pv i σ H → g (.str ⟨#[c]⟩) σ H fun σ2 H2 => tb { D with nx := Pv (i + 1), ct := Pv (i + 1), bk := D.nx } σ2 H2) (hd : ∀ σ H, Pv z.cps.toList.length σ H → D.nx σ H) :
    tFor (fun _ H R => R (Its z) H) g tb D σ H := for_it walk_str Pv h0 (fun _ _ _ _ _ => trivial) (fun i x σ H H' hi hp hy => by
      obtain ⟨e, c, hc, hx⟩ := hy
      subst e hx
      exact hs i c σ _ (by rw [Array.getElem?_toList]; exact hc) hp) (fun σ H h => hd σ H (by simpa using h))
end
def rNeDE : R2 := fun x y H Q => ∃ a b ks, x = .ref a ∧ y = .ref b ∧ H a = some (.dK ks) ∧ H b = some (.dK []) ∧ Q (.bl (!ks.isEmpty)) H
theorem op_neDE {X : Cx} (hu : X.A.units < cLine) : OpR X (compareOp .NotEq) rNeDE := by
  intro pins s σ H x y v u Q I rx ry h
  obtain ⟨a, b, ks, rfl, rfl, ea, eb, q⟩ := h
  obtain rfl : v = Value.ref a := rx
  obtain rfl : u = Value.ref b := ry
  obtain ⟨_, ya, va, ra, da⟩ := (show ObjOk X.prog X.w H s.heap a (.dK ks) from I.hok a _ ea)
  obtain ⟨_, yb, vb, rb, db⟩ := (show ObjOk X.prog X.w H s.heap b (.dK []) from I.hok b _ eb)
  have lb : vb.length = 0 := by rw [← rb.length]; rfl
  have la : va.length = ks.length := ra.length.symm
  cases ks with
  | nil =>
    have la : va.length = 0 := la
    exact PySem.W.keq_ne (knd := mixKind X.prog X.w) (r := true) ya yb da db hu (fun _ => hits_all rb ra (fun p hp => nomatch hp)) (fin_bl I q (by simp [la, lb]))
  | cons k ks =>
    rw [List.length_cons] at la
    exact PySem.W.keq_ne (knd := mixKind X.prog X.w) (r := true) ya yb da db hu (fun e => absurd e (by omega)) (fin_bl I q (by simp [la, lb]))
end De

set_option Elab.async false
set_option linter.all false
set_option maxRecDepth 100000
set_option maxHeartbeats 4000000
namespace K10
open PySem PySem.Spec PyProof.Rows L2 Rd Dt Dq Pk Ln En Sx Sy So Sr Lk Rq
local macro_rules | `(tactic| walk_at "rd") => `(tactic| try simp only [↓Lk.tLockE_, ↓Lk.tLock_, ↓Lk.tLc_keys, ↓Lk.tFor_keys, ↓Sy.tTupP_, ↓Sy.rTupP_, ↓Sy.rCatP_, ↓Sy.rSlP_, ↓Sy.rDictT_, ↓Sy.tDGet_, ↓Sy.tDGet1_, ↓Sy.tDIn_, ↓Sy.tDNotIn_, ↓Sy.tMeth_, ↓Sy.tMethKw_, ↓Sy.rSortedS_, ↓Sx.rIsT_, ↓En.tFor_enumT, ↓Sy.tFor_enumL, ↓Rv.tMakeKw_, ↓Prp.tProp_, ↓Lo.tBits_, ↓Lo.tJs_n, ↓Lo.tJs_c, ↓Lo.tFmt_, ↓Lo.gFld_, ↓Lo.tMake_, ↓Lo.rOwn_, ↓Rg.tFor_range3, ↓Rg.tLc_range3, ↓Rg.tLstC_, ↓Rg.tLc_rngV, ↓Le.rNeLE_, ↓Le.rEqLE_, ↓Ls.tLc_str, ↓Ls.sDPut_, ↓Rl.rReprL_, ↓Rl.tCallKS_, ↓Ob.tFld_, ↓Ob.sFld_, ↓tVar_, ↓tC_, ↓tM1, ↓tDNewK_, ↓tOp_, ↓tUn_, ↓rI_, ↓rI0_, ↓rU_, ↓eq_ii, ↓ne_ii, ↓eq_ss, ↓ne_ss, ↓eq_bb, ↓ne_bb, ↓tAndV_, ↓tOrV_, ↓tNotV_, ↓tIf_, ↓tTest_, ↓tB_, ↓tAnd_, ↓tOr_, ↓tNot_, ↓tChain_, ↓tNil_, ↓tCons_, ↓tTup_, ↓tLst_, ↓tCB_, ↓tCall_, ↓tSeq_, ↓tNext_, ↓tRet_, ↓tRetN_, ↓tDrop_, ↓tBreak_, ↓tNever_, ↓tIfS_, ↓tAsg_, ↓gName_, ↓gTup_, ↓gCons_, ↓gNil_, ↓gSub_, ↓tPar_, ↓tPar3_, ↓tSl_, ↓tNoPart_, ↓tPart_, ↓tBM_, ↓tFor_range1, ↓tFor_range2, ↓tFor_list, ↓tFor_tup, L2.start, List.headD_cons, List.headD_nil, List.tail_cons, List.map_cons, List.map_nil, List.length_cons, List.length_nil, List.replicate, List.append_nil, List.nil_append, List.cons_append, List.getElem?_cons_zero, List.getElem?_cons_succ, List.set_cons_zero, List.set_cons_succ, Option.some.injEq, V.int.injEq, V.bl.injEq, V.str.injEq, V.ref.injEq, exists_eq_left, exists_eq_left', exists_eq_right, exists_eq, exists_and_left, and_true, true_and, decide_eq_true_eq, Nat.reduceAdd, Nat.reduceSub, Nat.add_zero, Nat.zero_add, List.cons.injEq, Bool.not_eq_true', decide_eq_false_iff_not, eq_self, reduceCtorEq, Bool.false_eq_true, if_true, if_false, ite_true, ite_false, and_self, ↓tLc_range1, ↓tLc_range2, ↓tLc_list, ↓tLc_tup, ↓tYes_, wipe0, wipe1, ↓tCallS_, ↓rIxL_, ↓rIxT_, ↓rSlL_, ↓rCat_, ↓rSetL_, ↓rRep_, ↓rGcd_, ↓tCallK_, ↓gUnl_, ↓tRaise_, decide_true, decide_false, not_true_eq_false, not_false_eq_true, false_and, or_false, false_or, and_false, and_assoc, exists_const, forall_const, forall_eq'])


section
variable {P : Program} {w : World} {K : PySem.W.Frag} {mg : Str → Option Value} {base : Heap}
/-! ### knot_order -/
open Kp
def nmAt (ks : List Kn) (i : Nat) : List Nat := match ks[i]? with
  | some k => k.nm.cps.toList
  | none => []
def prJ (ks : List Kn) (j : Nat) : List (Nat × Nat) := (List.range j).flatMap fun i => (nmAt ks i).map fun c => (c, i)
theorem prJ_step {ks : List Kn} {j : Nat} {k : Kn} (h : ks[j]? = some k) : prJ ks (j + 1) = prJ ks j ++ k.nm.cps.toList.map fun c => (c, j) := by
  unfold prJ
  rw [List.range_succ, List.flatMap_append]
  congr 1
  simp [nmAt, h]
theorem prJ_keys {ks : List Kn} : ∀ {j : Nat}, j ≤ ks.length → (prJ ks j).map (·.1) = ltrs (ks.take j)
  | 0, _ => rfl
  | j + 1, h => by
    have e : ks[j]? = some ks[j] := List.getElem?_eq_getElem h
    rw [prJ_step e, List.map_append, prJ_keys (Nat.le_of_succ_le h), List.take_succ, e]
    unfold ltrs
    rw [List.flatMap_append, List.map_map]
    congr 1
    have q : ∀ l : List Nat, l.map ((fun x : Nat × Nat => x.1) ∘ fun c => (c, j)) = l := fun l => (List.map_congr_left fun _ _ => rfl).trans (List.map_id' l)
    rw [q]
    simp
theorem mem_prJ {ks : List Kn} {c i : Nat} : ∀ {j : Nat}, (c, i) ∈ prJ ks j → ∃ k, ks[i]? = some k ∧ c ∈ k.nm.cps.toList := fun {j} h => by
  unfold prJ at h
  obtain ⟨n, _, h⟩ := List.mem_flatMap.mp h
  obtain ⟨d, hd, e⟩ := List.mem_map.mp h
  cases e
  unfold nmAt at hd
  cases q : ks[i]? with
  | none => rw [q] at hd; cases hd
  | some k =>
    rw [q] at hd
    exact ⟨k, rfl, hd⟩
theorem pl_of {c : Nat} : ∀ {ks : List Kn} {i : Nat} {k : Kn}, (ltrs ks).Nodup → ks[i]? = some k → c ∈ k.nm.cps.toList → plK ks c = i
  | k0 :: r, 0, k, nd, h, m => by
    cases h
    unfold plK
    rw [List.findIdx_cons, decide_eq_true m]
    rfl
  | k0 :: r, i + 1, k, nd, h, m => by
    have h : r[i]? = some k := h
    have nd : (k0.nm.cps.toList ++ ltrs r).Nodup := nd
    obtain ⟨n1, n2, n3⟩ := List.nodup_append.mp nd
    have mr : c ∈ ltrs r := List.mem_flatMap.mpr ⟨k, List.mem_of_getElem? h, m⟩
    have nc : c ∉ k0.nm.cps.toList := fun z => n3 c z c mr rfl
    have ih := pl_of (c := c) n2 h m
    unfold plK at ih ⊢
    rw [List.findIdx_cons, decide_eq_false nc, ih]
    rfl
def spKo : Sp := fun vs H Q _ => ∃ (a : Addr) (ks : List Kn), vs = [.ref a] ∧ KnsAt H a ks ∧ ks.length ≤ 4001 ∧ KRt ks ∧ ∀ o H', Same H H' → H o = none → H' o = some (.lst ((ordK ks).map fun n : Nat => V.int n)) → (∀ x ∈ ordK ks, x < ks.length) → Q (.ref o) H'
/-- the order so far -/
structure KoP (ks : List Kn) (cs : List Nat) (H3 : Hp) (DO DS : Addr) (pre : L2.St) (j : Nat) (σ : L2.St) (H' : Hp) (S : List Nat) : Prop where
  k : ∀ x o, x ≠ DO → x ≠ DS → H3 x = some o → H' x = some o
  e : S = (cs.take j).foldl (fun S c => Kt.folF (nxK ks) (ks.length + 1) (some (plK ks c)) S) []
  nd : S.Nodup
  b : ∀ x ∈ S, x < ks.length
  od : H' DO = some (.lst (S.map fun n : Nat => V.int n))
  sd : H' DS = some (.dK (S.map Tk.tK))
  g : ∃ y4 y5 y6, σ = pre ++ [y4, y5, y6]
def KoQ (ks : List Kn) (cs : List Nat) (H3 : Hp) (DO DS : Addr) (pre : L2.St) (j : Nat) (σ : L2.St) (H' : Hp) : Prop := ∃ S, KoP ks cs H3 DO DS pre j σ H' S
/-- within the while -/
structure KoW (ks : List Kn) (cs : List Nat) (H3 : Hp) (DO DS : Addr) (pre : L2.St) (j : Nat) (σ : L2.St) (H' : Hp) (S : List Nat) (o : Option Nat) (m : Nat) : Prop where
  k : ∀ x o, x ≠ DO → x ≠ DS → H3 x = some o → H' x = some o
  e : Kt.folF (nxK ks) m o S = (cs.take (j + 1)).foldl (fun S c => Kt.folF (nxK ks) (ks.length + 1) (some (plK ks c)) S) []
  nd : S.Nodup
  b : ∀ x ∈ S, x < ks.length
  ob : ∀ i, o = some i → i < ks.length
  m : ks.length + 1 ≤ m + S.length
  od : H' DO = some (.lst (S.map fun n : Nat => V.int n))
  sd : H' DS = some (.dK (S.map Tk.tK))
  g : ∃ y5 y6, σ = pre ++ [some (nxV o), y5, y6]
def KoV (ks : List Kn) (cs : List Nat) (H3 : Hp) (DO DS : Addr) (pre : L2.St) (j : Nat) (σ : L2.St) (H' : Hp) : Prop := ∃ S o m, KoW ks cs H3 DO DS pre j σ H' S o m
theorem sc_ko : FnScope ["knots", "places", "order", "seen", "index", "knot", "letter"] ["knots"] (defScope (top 8)) := ⟨rfl, rfl, rfl, by decide +kernel, rfl, by decide +kernel, by decide +kernel⟩
theorem ok_ko {f : Addr} {fd : FuncData} (T : Tx mg) (F : FD K "knot_order" (top 8) f fd) : FnOk P w K mg base CX0 1 f fd ["knots"] spKo := by
  refine F.ok sc_ko (fun vs H Q E h => ?_) (fun cdv A outer s H vs Q E hr h => ?_)
  · obtain ⟨_, _, rfl, _⟩ := h
    rfl
  · obtain ⟨a, ks, rfl, ⟨as, ha, kn⟩, kl, rt, k⟩ := h
    have nd := sc_ko.nd
    have zl : (1000000 : Nat) ≤ sizeLine := line_big
    refine ⟨_, (pss_cons (ps_par3 rfl nd (i := 1) (j := 2) (l := 3) rfl rfl rfl (by decide) (by decide) (by decide) rfl rfl rfl (pa_cons pe_dnewK (pa_cons (pe_lst pa_nil) (pa_cons pe_dnewK pa_nil))) rfl)
        (pss_cons (ps_for (passes_of rfl) rfl (pi_enum rfl T.b_enumerate (pa_cons (pv 0) pa_nil)) (pg_tup rfl (pgs_cons (pg_name (i := 4) nd rfl (Or.inl rfl) (hf := Or.inr rfl)) (pgs_cons (pg_name (i := 5) nd rfl (Or.inl rfl) (hf := Or.inr rfl)) pgs_nil))) (pss_one (ps_for (passes_of rfl) rfl (pi_str (pe_ix (r := rIxL K) ix_list (pv 5) pe_int (fun _ _ => rfl))) (pg_name (i := 6) nd rfl (Or.inl rfl)) (pss_one (ps_dput (hu_of hr) (pv 1) (pv 6) (pv 4) rfl)))))
        (pss_cons (ps_for (passes_of rfl) rfl (pi_list (pe_callB (call_sortedD rfl) (by rfl) T.b_sorted (by decide +kernel) (pa_cons (pv 1) pa_nil))) (pg_name (i := 6) nd rfl (Or.inl rfl)) (pss_cons (ps_set (i := 4) nd rfl (Or.inl rfl) (pe_dget (hu_of hr) (pv 1) (pv 6) (fun _ _ => rfl)))
        (pss_one (ps_while (passes_of rfl) (PW.pt (pw_and (pt_cmpR op_notN (pv 4) pe_non (nomark _)) (pw_and1 (pt_cmp (pc_dnotin (hu_of hr) (pv 4) (pv 3)))))) (pss_cons (ps_dput (hu_of hr) (pv 3) (pv 4) pe_bl rfl)
        (pss_cons (ps_expr (pe_bm PySem.F.plainAttrs_list PySem.F.slot_list_append PySem.F.type_list_append mt_append (pv 2) (pa_cons (pv 4) pa_nil)))
        (pss_one (ps_set (i := 4) nd rfl (Or.inl rfl) (pe_ix (r := rIxL K) ix_list (pe_ix (r := rIxL K) ix_list (pv 0) (pv 4) (fun _ _ => rfl)) pe_int (fun _ _ => rfl))))))))))
        (pss_one (ps_ret (pv 2)))))), ?_⟩
    refine sq fun U hU => ?_
    walk_at "rd"
    intro DP hDP
    refine ⟨by omega, fun DO hDO DS hDS => hU _ _ ?_⟩
    clear hU
    have t1 := same_new (o := HO.dK []) hDP
    have t2 := same_new (o := HO.lst []) hDO
    have t3 := same_new (o := HO.dK []) hDS
    have s1 := (t1.trans t2).trans t3
    have eP := t3 _ _ (t2 _ _ (upd_same (H := H) (a := DP) (o := HO.dK [])))
    have eO := t3 _ _ (upd_same (H := upd H DP (.dK [])) (a := DO) (o := HO.lst []))
    have eS := upd_same (H := upd (upd H DP (.dK [])) DO (.lst [])) (a := DS) (o := HO.dK [])
    have hO0 : H DO = none := t1.free hDO
    have hS0 : H DS = none := (t1.trans t2).free hDS
    have nPO : DP ≠ DO := fun q => by rw [← q, upd_same] at hDO; cases hDO
    have nPS : DP ≠ DS := fun q => by rw [← q, t2 _ _ upd_same] at hDS; cases hDS
    have nOS : DO ≠ DS := fun q => by rw [← q, upd_same] at hDS; cases hDS
    generalize upd (upd (upd H DP (.dK [])) DO (.lst [])) DS (.dK []) = H1 at s1 eP eO eS ⊢
    clear t1 t2 t3 hDO hDS
    have ll4 : (ltrs ks).length ≤ 4 := rt.l4
    refine sq fun U hU => ?_
    walk_at "rd"
    refine ⟨_, SqL.of (s1 _ _ ha), ?_⟩
    refine for_enumL (xs := as.map V.ref) (fun j σ H' => (∀ x o, x ≠ DP → H1 x = some o → H' x = some o) ∧ H' DP = some (.dK ((prJ ks j).map nk)) ∧ ∃ y4 y5 y6, σ = [some (.ref a), some (.ref DP), some (.ref DO), some (.ref DS), y4, y5, y6]) ⟨fun x o _ e => e, eP, none, none, none, rfl⟩ (fun j σ H' _ hp => SqL.of (hp.1 _ _ (fun q => by rw [q, hDP] at ha; cases ha) (s1 _ _ ha))) ?_ ?_
    · rintro j x σ H2 N hx ⟨k2, hP2, y4, y5, y6, rfl⟩ hN
      obtain ⟨A, hA, rfl⟩ := map_at hx
      have il := (List.getElem?_eq_some_iff.mp hA).1
      have jl : j < ks.length := by rw [← kn.1]; exact il
      have hk : ks[j]? = some ks[j] := List.getElem?_eq_getElem jl
      generalize ks[j] = kk at hk
      have eA0 := kn.2 j A kk hA hk
      have sN := same_new (o := HO.tup [V.int (j : Nat), V.ref A]) hN
      have eN : upd H2 N (.tup [.int (j : Nat), .ref A]) N = some (.tup [.int (j : Nat), .ref A]) := upd_same
      have eA : SqL K (upd H2 N (.tup [.int (j : Nat), .ref A])) A (knV kk) := SqL.of (sN _ _ (k2 _ _ (fun q => by rw [q, hDP] at eA0; cases eA0) (s1 _ _ eA0)))
      have hP3 := sN _ _ hP2
      have k3 : ∀ x o, x ≠ DP → H1 x = some o → upd H2 N (.tup [.int (j : Nat), .ref A]) x = some o := fun x o n e => sN _ _ (k2 _ _ n e)
      generalize upd H2 N (.tup [.int (j : Nat), .ref A]) = H3 at eN eA hP3 k3 ⊢
      walk_at "rd"
      refine ⟨_, SqT.of eN, rfl, _, _, rfl, _, _, rfl, rfl, ?_⟩
      rw [De.tFor_str]
      walk_at "rd"
      have lk : (ltrs (ks.take j)).length + kk.nm.cps.toList.length ≤ 4 := by
        have e : ltrs ks = ltrs (ks.take j) ++ (kk.nm.cps.toList ++ ltrs (ks.drop (j + 1))) := by
          have e1 : ks = ks.take j ++ (kk :: ks.drop (j + 1)) := by
            have e2 := List.drop_eq_getElem_cons jl
            rw [List.getElem?_eq_getElem jl] at hk
            rw [Option.some.inj hk] at e2
            rw [← e2, List.take_append_drop]
          have e3 := congrArg ltrs e1
          unfold ltrs at e3 ⊢
          rw [List.flatMap_append, List.flatMap_cons] at e3
          exact e3
        have := congrArg List.length e
        rw [List.length_append, List.length_append] at this
        omega
      refine ⟨_, eA, V.str kk.nm, atI_nn (by decide) rfl, kk.nm, rfl, ?_⟩
      refine De.for_s (fun i σ H' => (∀ x o, x ≠ DP → H1 x = some o → H' x = some o) ∧ H' DP = some (.dK ((prJ ks j ++ (kk.nm.cps.toList.take i).map fun c => (c, j)).map nk)) ∧ ∃ y6, σ = [some (.ref a), some (.ref DP), some (.ref DO), some (.ref DS), some (.int (j : Nat)), some (.ref A), y6]) ⟨k3, by rw [hP3]; simp, y6, rfl⟩ ?_ ?_
      · rintro i c σ H4 hc ⟨k4, hP4, y6, rfl⟩
        walk_at "rd"
        have pk : (prJ ks j).map (·.1) = ltrs (ks.take j) := prJ_keys (Nat.le_of_lt jl)
        have eq1 : prJ ks j ++ (kk.nm.cps.toList.take (i + 1)).map (fun c => (c, j)) = prJ ks j ++ (kk.nm.cps.toList.take i).map (fun c => (c, j)) ++ [(c, j)] := by
          rw [List.take_succ, hc, List.map_append, List.append_assoc]
          rfl
        have fresh : c ∉ (prJ ks j ++ (kk.nm.cps.toList.take i).map (fun c => (c, j))).map (·.1) := by
          have e1 : (prJ ks j ++ (kk.nm.cps.toList.take i).map (fun c => (c, j))).map (·.1) = ltrs (ks.take j) ++ kk.nm.cps.toList.take i := by
            rw [List.map_append, pk, List.map_map]
            congr 1
            exact (List.map_congr_left fun _ _ => rfl).trans (List.map_id' _)
          have e2 : (ltrs (ks.take (j + 1))).Nodup := by
            refine rt.nd.sublist ?_
            have : ltrs ks = ltrs (ks.take (j + 1)) ++ ltrs (ks.drop (j + 1)) := by
              unfold ltrs
              rw [← List.flatMap_append, List.take_append_drop]
            rw [this]
            exact List.sublist_append_left _ _
          have e3 : ltrs (ks.take (j + 1)) = ltrs (ks.take j) ++ kk.nm.cps.toList := by
            rw [List.take_succ, hk]
            unfold ltrs
            rw [List.flatMap_append]
            congr 1
            simp
          rw [e3] at e2
          have e4 : (ltrs (ks.take j) ++ (kk.nm.cps.toList.take i ++ [c])).Nodup := by
            refine e2.sublist (List.Sublist.append (List.Sublist.refl _) ?_)
            have : kk.nm.cps.toList.take i ++ [c] = kk.nm.cps.toList.take (i + 1) := by rw [List.take_succ, hc]; rfl
            rw [this]
            exact List.take_sublist _ _
          rw [e1]
          rw [← List.append_assoc, List.nodup_append] at e4
          exact fun z => e4.2.2 c z c (List.mem_singleton_self c) rfl
        refine ⟨_, DPut.k (k := Sum.inr (L1 c)) hP4 ?_, fun x o n e => by rw [upd_ne n]; exact k4 _ _ n e, ?_, _, rfl⟩
        · rw [List.length_map, List.length_append, List.length_map, List.length_take]
          have := congrArg List.length pk
          rw [List.length_map] at this
          omega
        · rw [upd_same, eq1, Tk.n_put fresh]
      rintro σ H4 ⟨k4, hP4, y6, rfl⟩
      rw [List.take_length, ← prJ_step hk] at hP4
      exact ⟨k4, hP4, _, _, _, rfl⟩
    rintro σ H2 ⟨k2, hP2, y4, y5, y6, rfl⟩
    rw [List.length_map, kn.1] at hP2
    refine hU _ _ ?_
    clear hU
    refine sq fun U hU => ?_
    walk_at "rd"
    have pk : (prJ ks ks.length).map (·.1) = ltrs ks := by rw [prJ_keys (Nat.le_refl _), List.take_length]
    refine ⟨_, .inl hP2, (ltrs ks).map L1, ?_, by rw [List.length_map]; omega, fun ys DL pys sys hDL => ?_⟩
    · rw [List.map_map, List.map_map, ← pk, List.map_map]
      rfl
    obtain ⟨cs, rfl, cl, cp, _⟩ := sorted_L pys sys ⟨rt.nd, rt.lo⟩
    have ecs : cs = srtN (ltrs ks) := by
      refine srtN_of ?_ (cp.imp fun h => Nat.le_of_lt h)
      have := pys.map fun s : Str => s.cps.toList.headD 0
      rw [List.map_map, List.map_map] at this
      have e3 : ∀ fs : List Nat, (fs.map ((fun s : Str => s.cps.toList.headD 0) ∘ L1)) = fs := fun fs => (List.map_congr_left fun c _ => rfl).trans (List.map_id' fs)
      rwa [e3, e3] at this
    clear pys sys cp
    have s3 : Same H2 (upd H2 DL (.lst ((cs.map L1).map V.str))) := same_new hDL
    have e3 : upd H2 DL (.lst ((cs.map L1).map V.str)) DL = some (.lst ((cs.map L1).map V.str)) := upd_same
    have eP3 := s3 _ _ hP2
    have eO3 := s3 _ _ (k2 _ _ nPO.symm eO)
    have eS3 := s3 _ _ (k2 _ _ nPS.symm eS)
    have k3 : Same H (upd H2 DL (.lst ((cs.map L1).map V.str))) := fun x o e => s3 _ _ (k2 _ _ (fun q => by rw [q, hDP] at e; cases e) (s1 _ _ e))
    have nLP : DL ≠ DP := fun q => by rw [q, hP2] at hDL; cases hDL
    have nLO : DL ≠ DO := fun q => by rw [q, k2 _ _ nPO.symm eO] at hDL; cases hDL
    have nLS : DL ≠ DS := fun q => by rw [q, k2 _ _ nPS.symm eS] at hDL; cases hDL
    generalize upd H2 DL (.lst ((cs.map L1).map V.str)) = H3 at e3 eP3 eO3 eS3 k3 ⊢
    clear s3 hDL
    refine ⟨⟨_, SqL.of e3⟩, for_l (xs := (cs.map L1).map V.str) (KoQ ks cs H3 DO DS [some (.ref a), some (.ref DP), some (.ref DO), some (.ref DS)]) ⟨[], fun x o _ _ e => e, rfl, List.nodup_nil, (fun _ h => nomatch h), eO3, eS3, y4, y5, y6, rfl⟩ (fun i σ H' _ ⟨_, hp⟩ => SqL.of (hp.k _ _ nLO nLS e3)) ?_ ?_⟩
    · rintro j x σ H4 hx ⟨S, g⟩
      obtain ⟨x', hx', rfl⟩ := map_at hx
      obtain ⟨c, hc, rfl⟩ := map_at hx'
      obtain ⟨y4, y5, y6, rfl⟩ := g.g
      have cm : c ∈ ltrs ks := (srtN_perm _).mem_iff.mp (by rw [← ecs]; exact List.mem_of_getElem? hc)
      obtain ⟨i, ci⟩ : ∃ i, (c, i) ∈ prJ ks ks.length := by
        rw [← pk] at cm
        obtain ⟨⟨c', i⟩, h1, rfl⟩ := List.mem_map.mp cm
        exact ⟨i, h1⟩
      obtain ⟨ki, hki, mci⟩ := mem_prJ ci
      have pli := pl_of rt.nd hki mci
      have il := (List.getElem?_eq_some_iff.mp hki).1
      walk_at "rd"
      refine ⟨.int (i : Nat), ?_, ?_⟩
      · have := DGet.k (k := Sum.inr (L1 c)) (g.k _ _ nPO nPS eP3)
        rw [Tk.n_get (by rw [pk]; exact rt.nd) ci] at this
        exact this
      refine Bw.while_b2 (KoV ks cs H3 DO DS [some (.ref a), some (.ref DP), some (.ref DO), some (.ref DS)] j) (fun _ H' => ks.length - (match H' DS with | some (.dK l) => l.length | _ => 0)) ⟨S, some i, ks.length + 1, g.k, ?_, g.nd, g.b, fun i' e => by cases e; exact il, by omega, g.od, g.sd, _, _, rfl⟩ ?_
      · rw [List.take_succ, hc, List.foldl_append, ← g.e]
        show _ = Kt.folF _ _ (some (plK ks c)) S
        rw [pli]
      rintro σ H5 ⟨S2, o, m, h⟩ QB qt qf
      obtain ⟨y5, y6, rfl⟩ := h.g
      walk_at "rd"
      have fold0 : ∀ m, Kt.folF (nxK ks) m none S2 = S2 := fun m => by cases m <;> rfl
      cases eo : o with
      | none =>
        subst eo
        rw [if_neg (fun h => h rfl)]
        refine qf _ ⟨S2, h.k, ?_, h.nd, h.b, h.od, h.sd, _, _, _, rfl⟩
        rw [← h.e, fold0]
      | some i2 =>
        subst eo
        rw [if_pos (fun h => by cases h)]
        have i2l := h.ob i2 rfl
        obtain ⟨og, ho, eo⟩ := Tk.get_t h.sd i2
        refine ⟨og, ho, ?_⟩
        rw [eo]
        by_cases q : i2 ∈ S2
        · rw [decide_eq_true q]
          refine qf _ ⟨S2, h.k, ?_, h.nd, h.b, h.od, h.sd, _, _, _, rfl⟩
          rw [← h.e]
          cases m with
          | zero => rfl
          | succ m =>
            show S2 = if i2 ∈ S2 then S2 else _
            rw [if_pos q]
        rw [decide_eq_false q]
        refine qt _ ?_
        clear qt qf
        have nd2 : (S2 ++ [i2]).Nodup := by
          rw [List.nodup_append]
          exact ⟨h.nd, by simp, fun x hx y hy e => q (by rw [List.mem_singleton] at hy; rw [← hy, ← e]; exact hx)⟩
        have b2 : ∀ x ∈ S2 ++ [i2], x < ks.length := fun x hx => (List.mem_append.mp hx).elim (h.b x) fun e => by rw [List.mem_singleton.mp e]; exact i2l
        have l2 : (S2 ++ [i2]).length ≤ ks.length := by
          have := nodup_le nd2 (m := List.range ks.length) fun x hx => List.mem_range.mpr (b2 x hx)
          rwa [List.length_range] at this
        rw [List.length_append, List.length_singleton] at l2
        obtain ⟨m, rfl⟩ : ∃ k, m = k + 1 := ⟨m - 1, by have := h.m; omega⟩
        obtain ⟨kk, hkk⟩ : ∃ kk, ks[i2]? = some kk := ⟨_, List.getElem?_eq_getElem i2l⟩
        obtain ⟨A, hA⟩ : ∃ A, as[i2]? = some A := ⟨_, List.getElem?_eq_getElem (by rw [kn.1]; exact i2l)⟩
        have hnx : nxK ks i2 = kk.nx := by unfold nxK; rw [hkk]; rfl
        walk_at "rd"
        refine ⟨_, DPut.k (k := Sum.inl (i2 : Int)) h.sd (by rw [List.length_map]; omega), ?_⟩
        rw [Tk.t_put, if_neg q]
        have hO6 : upd H5 DS (.dK ((S2 ++ [i2]).map Tk.tK)) DO = some (.lst (S2.map fun n : Nat => V.int n)) := by rw [upd_ne nOS]; exact h.od
        have hS7 : upd (upd H5 DS (.dK ((S2 ++ [i2]).map Tk.tK))) DO (.lst ((S2.map fun n : Nat => V.int n) ++ [nxV (some i2)])) DS = some (.dK ((S2 ++ [i2]).map Tk.tK)) := by rw [upd_ne nOS.symm, upd_same]
        have hO7 : upd (upd H5 DS (.dK ((S2 ++ [i2]).map Tk.tK))) DO (.lst ((S2.map fun n : Nat => V.int n) ++ [nxV (some i2)])) DO = some (.lst ((S2 ++ [i2]).map fun n : Nat => V.int n)) := by rw [upd_same, List.map_append]; rfl
        have k7 : ∀ x o, x ≠ DO → x ≠ DS → H3 x = some o → upd (upd H5 DS (.dK ((S2 ++ [i2]).map Tk.tK))) DO (.lst ((S2.map fun n : Nat => V.int n) ++ [nxV (some i2)])) x = some o := fun x o n1 n2 e => by rw [upd_ne n1, upd_ne n2]; exact h.k _ _ n1 n2 e
        refine ⟨.inl ⟨rfl, _, SqL.of hO6⟩, DO, _, _, rfl, rfl, hO6, by rw [List.length_map]; omega, ?_⟩
        generalize upd (upd H5 DS (.dK ((S2 ++ [i2]).map Tk.tK))) DO (.lst ((S2.map fun n : Nat => V.int n) ++ [nxV (some i2)])) = H7 at hS7 hO7 k7 ⊢
        have s7 : ∀ x o, H x = some o → H7 x = some o := fun x o e => k7 _ _ (fun q => by rw [q, hO0] at e; cases e) (fun q => by rw [q, hS0] at e; cases e) (k3 _ _ e)
        refine ⟨_, i2, rfl, SqL.of (s7 _ _ ha), V.ref A, atI_nn (by omega) (by rw [Int.toNat_natCast, List.getElem?_map, hA]; rfl), A, rfl, _, SqL.of (s7 _ _ (kn.2 i2 A kk hA hkk)), nxV kk.nx, atI_nn (by decide) rfl, ⟨S2 ++ [i2], kk.nx, m, k7, ?_, nd2, b2, rt.nx kk (List.mem_of_getElem? hkk), by rw [List.length_append, List.length_singleton]; have := h.m; omega, hO7, hS7, _, _, rfl⟩, ?_⟩
        · rw [← h.e]
          show _ = (if i2 ∈ S2 then S2 else Kt.folF (nxK ks) m (nxK ks i2) (S2 ++ [i2]))
          rw [if_neg q, hnx]
        · rw [hS7, h.sd]
          show ks.length - ((S2 ++ [i2]).map Tk.tK).length < ks.length - (S2.map Tk.tK).length
          rw [List.length_map, List.length_map, List.length_append, List.length_singleton]
          omega
    rintro σ H4 ⟨S, g⟩
    obtain ⟨y4, y5, y6, rfl⟩ := g.g
    refine hU _ _ ?_
    clear hU
    walk_at "rd"
    have eS_ := g.e
    rw [List.length_map, List.length_map, List.take_length, ecs] at eS_
    refine k DO H4 (fun x o e => g.k _ _ (fun q => by rw [q, hO0] at e; cases e) (fun q => by rw [q, hS0] at e; cases e) (k3 _ _ e)) hO0 ?_ (fun x hx => g.b x (by rw [eS_]; exact hx))
    rw [g.od, eS_]
    rfl
end
end K10

set_option Elab.async false
set_option linter.all false
set_option maxRecDepth 100000
set_option maxHeartbeats 4000000
namespace K10
open PySem PySem.Spec PyProof.Rows L2 Rd Dt Dq Pk Ln En Sx Sy So Sr Lk Rq
local macro_rules | `(tactic| walk_at "rd") => `(tactic| try simp only [↓Lk.tLockE_, ↓Lk.tLock_, ↓Lk.tLc_keys, ↓Lk.tFor_keys, ↓Sy.tTupP_, ↓Sy.rTupP_, ↓Sy.rCatP_, ↓Sy.rSlP_, ↓Sy.rDictT_, ↓Sy.tDGet_, ↓Sy.tDGet1_, ↓Sy.tDIn_, ↓Sy.tDNotIn_, ↓Sy.tMeth_, ↓Sy.tMethKw_, ↓Sy.rSortedS_, ↓Sx.rIsT_, ↓En.tFor_enumT, ↓Sy.tFor_enumL, ↓Rv.tMakeKw_, ↓Prp.tProp_, ↓Lo.tBits_, ↓Lo.tJs_n, ↓Lo.tJs_c, ↓Lo.tFmt_, ↓Lo.gFld_, ↓Lo.tMake_, ↓Lo.rOwn_, ↓Rg.tFor_range3, ↓Rg.tLc_range3, ↓Rg.tLstC_, ↓Rg.tLc_rngV, ↓Le.rNeLE_, ↓Le.rEqLE_, ↓Ls.tLc_str, ↓Ls.sDPut_, ↓Rl.rReprL_, ↓Rl.tCallKS_, ↓Ob.tFld_, ↓Ob.sFld_, ↓tVar_, ↓tC_, ↓tM1, ↓tDNewK_, ↓tOp_, ↓tUn_, ↓rI_, ↓rI0_, ↓rU_, ↓eq_ii, ↓ne_ii, ↓eq_ss, ↓ne_ss, ↓eq_bb, ↓ne_bb, ↓tAndV_, ↓tOrV_, ↓tNotV_, ↓tIf_, ↓tTest_, ↓tB_, ↓tAnd_, ↓tOr_, ↓tNot_, ↓tChain_, ↓tNil_, ↓tCons_, ↓tTup_, ↓tLst_, ↓tCB_, ↓tCall_, ↓tSeq_, ↓tNext_, ↓tRet_, ↓tRetN_, ↓tDrop_, ↓tBreak_, ↓tNever_, ↓tIfS_, ↓tAsg_, ↓gName_, ↓gTup_, ↓gCons_, ↓gNil_, ↓gSub_, ↓tPar_, ↓tPar3_, ↓tSl_, ↓tNoPart_, ↓tPart_, ↓tBM_, ↓tFor_range1, ↓tFor_range2, ↓tFor_list, ↓tFor_tup, L2.start, List.headD_cons, List.headD_nil, List.tail_cons, List.map_cons, List.map_nil, List.length_cons, List.length_nil, List.replicate, List.append_nil, List.nil_append, List.cons_append, List.getElem?_cons_zero, List.getElem?_cons_succ, List.set_cons_zero, List.set_cons_succ, Option.some.injEq, V.int.injEq, V.bl.injEq, V.str.injEq, V.ref.injEq, exists_eq_left, exists_eq_left', exists_eq_right, exists_eq, exists_and_left, and_true, true_and, decide_eq_true_eq, Nat.reduceAdd, Nat.reduceSub, Nat.add_zero, Nat.zero_add, List.cons.injEq, Bool.not_eq_true', decide_eq_false_iff_not, eq_self, reduceCtorEq, Bool.false_eq_true, if_true, if_false, ite_true, ite_false, and_self, ↓tLc_range1, ↓tLc_range2, ↓tLc_list, ↓tLc_tup, ↓tYes_, wipe0, wipe1, ↓tCallS_, ↓rIxL_, ↓rIxT_, ↓rSlL_, ↓rCat_, ↓rSetL_, ↓rRep_, ↓rGcd_, ↓tCallK_, ↓gUnl_, ↓tRaise_, decide_true, decide_false, not_true_eq_false, not_false_eq_true, false_and, or_false, false_or, and_false, and_assoc, exists_const, forall_const, forall_eq'])


section
variable {P : Program} {w : World} {K : PySem.W.Frag} {mg : Str → Option Value} {base : Heap}
/-! ### shape_of_knots, the order being that of the list -/
open Kp
def Kwf (ks : List Kn) : Prop := ∀ k ∈ ks, (k.sg = 62 → ∃ n, k.nx = some n) ∧ (k.sg ≠ 62 → k.nx = none)
def idP (n : Nat) : List (Nat × Nat) := (List.range n).map fun i => (i, i)
theorem idP_keys (n : Nat) : (idP n).map (·.1) = List.range n := by
  unfold idP
  rw [List.map_map]
  exact (List.map_congr_left fun _ _ => rfl).trans (List.map_id' _)
theorem idP_step (n : Nat) : idP (n + 1) = idP n ++ [(n, n)] := by
  unfold idP
  rw [List.range_succ, List.map_append]
  rfl
def nmS (k : Kn) : Str := if k.nm = "" then ("-" : Str) else strOfL (srtN k.nm.cps.toList)
theorem join_L1 (cs : List Nat) : Txt.join (Str.ofString "") (cs.map L1) = strOfL cs := by
  have e : (Txt.join (Str.ofString "") (cs.map L1)).cps.toList = cs := by
    show TL.tl (Txt.join "" _) = _
    rw [TL.join_eq, TL.tl_join, List.map_map]
    show TL.joinL (TL.tl (Str.ofString "")) _ = _
    rw [show TL.tl (Str.ofString "") = [] by decide +kernel, joinL_flat]
    induction cs with
    | nil => rfl
    | cons c cs ih =>
      rw [List.map_cons, List.flatten_cons, ih]
      rfl
  have e2 : Txt.join (Str.ofString "") (cs.map L1) = ⟨(Txt.join (Str.ofString "") (cs.map L1)).cps.toList.toArray⟩ := by rw [Array.toArray_toList]
  rw [e2, e]
  rfl
theorem ltr_sub {ks : List Kn} {k : Kn} (h : k ∈ ks) : List.Sublist k.nm.cps.toList (ltrs ks) := by
  obtain ⟨A, B, rfl⟩ := List.append_of_mem h
  unfold ltrs
  rw [List.flatMap_append, List.flatMap_cons]
  exact (List.sublist_append_left _ _).trans (List.sublist_append_right _ _)
theorem nmS_len {ks : List Kn} {k : Kn} (h : k ∈ ks) (rt : KRt ks) : (nmS k).length ≤ 4 := by
  unfold nmS
  split
  · decide
  · show (srtN k.nm.cps.toList).toArray.size ≤ 4
    rw [List.size_toArray, (srtN_perm _).length_eq]
    exact Nat.le_trans (ltr_sub h).length_le rt.l4
theorem wdK_len {ks : List Kn} {k : Kn} (h : k ∈ ks) (kl : ks.length ≤ 4001) (rt : KRt ks) : (wdK k).length ≤ 140 := by
  have h1 := nmS_len h rt
  show (nmS k ++ (⟨#[k.sg]⟩ : Str) ++ _).length ≤ 140
  rw [Str.length_append, Str.length_append]
  have h2 : (⟨#[k.sg]⟩ : Str).length = 1 := rfl
  cases e : k.nx with
  | none =>
    have : (Str.ofString "").length = 0 := by decide
    show _ + (Str.ofString "").length ≤ 140
    omega
  | some n =>
    have := rt.nx k h n e
    have h3 := intT_len (n := n) (by omega)
    show _ + (intT n).length ≤ 140
    omega
def spSk : Sp := fun vs H Q _ => ∃ (a o : Addr) (ks : List Kn), vs = [.ref a, .ref o] ∧ KnsAt H a ks ∧ H o = some (.lst ((List.range ks.length).map fun n : Nat => V.int n)) ∧ ks.length ≤ 4001 ∧ KRt ks ∧ Kwf ks ∧ ∀ H', Same H H' → Q (.str (shTx ks)) H'
theorem sc_sk : FnScope ["knots", "order", "number", "place", "index", "words", "names", "sign", "behind", "word"] ["knots", "order"] (defScope (top 9)) := ⟨rfl, rfl, rfl, by decide +kernel, rfl, by decide +kernel, by decide +kernel⟩
theorem ok_sk {f : Addr} {fd : FuncData} (T : Tx mg) (F : FD K "shape_of_knots" (top 9) f fd) : FnOk P w K mg base CX0 1 f fd ["knots", "order"] spSk := by
  refine F.ok sc_sk (fun vs H Q E h => ?_) (fun cdv A outer s H vs Q E hr h => ?_)
  · obtain ⟨_, _, _, rfl, _⟩ := h
    rfl
  · obtain ⟨a, o, ks, rfl, ⟨as, ha, kn⟩, ho, kl, rt, wf, k⟩ := h
    have nd := sc_sk.nd
    have zl : (1000000 : Nat) ≤ sizeLine := line_big
    refine ⟨_, (pss_cons (ps_set (i := 2) nd rfl (Or.inl rfl) pe_dnewK)
        (pss_cons (ps_for (passes_of rfl) rfl (pi_enum rfl T.b_enumerate (pa_cons (pv 1) pa_nil)) (pg_tup rfl (pgs_cons (pg_name (i := 3) nd rfl (Or.inl rfl) (hf := Or.inr rfl)) (pgs_cons (pg_name (i := 4) nd rfl (Or.inl rfl) (hf := Or.inr rfl)) pgs_nil))) (pss_one (ps_dput (hu_of hr) (pv 2) (pv 4) (pv 3) rfl)))
        (pss_cons (ps_set (i := 5) nd rfl (Or.inl rfl) (pe_lst pa_nil))
        (pss_cons (ps_for (passes_of rfl) rfl (pi_list (pv 1)) (pg_name (i := 4) nd rfl (Or.inl rfl)) (pss_cons (ps_asg (pe_ix (r := rIxL K) ix_list (pv 0) (pv 4) (fun _ _ => rfl)) (pg_unl rfl (pgs_cons (pg_name (i := 6) nd rfl (Or.inl rfl) (hf := Or.inr rfl)) (pgs_cons (pg_name (i := 7) nd rfl (Or.inl rfl) (hf := Or.inr rfl)) (pgs_cons (pg_name (i := 8) nd rfl (Or.inl rfl) (hf := Or.inr rfl)) pgs_nil)))))
        (pss_cons (ps_set (i := 9) nd rfl (Or.inl rfl) (pe_ifExp (pt_cmpR op_ne (pv 6) pe_str (nomark _)) (pe_join pe_str (pe_callB (Es.call_sortSg rfl) (by rfl) T.b_sorted (by decide +kernel) (pa_cons (pv 6) pa_nil))) pe_str))
        (pss_one (ps_expr (pe_bm PySem.F.plainAttrs_list PySem.F.slot_list_append PySem.F.type_list_append mt_append (pv 5) (pa_cons (pe_op op_add_str (pe_op op_add_str (pv 9) (pv 7)) (pe_ifExp (pt_cmpR op_eq (pv 7) pe_str (nomark _)) (pe_callTy call_str_int (by rfl) T.b_str (by decide +kernel) (pa_cons (pe_dget (hu_of hr) (pv 2) (pv 8) (fun _ _ => rfl)) pa_nil)) pe_str)) pa_nil)))))))
        (pss_one (ps_ret (pe_join pe_str (pv 5)))))))), ?_⟩
    refine sq fun U hU => ?_
    walk_at "rd"
    intro DN hDN
    refine hU _ _ ?_
    clear hU
    have s1 := same_new (o := HO.dK []) hDN
    have eN : upd H DN (.dK []) DN = some (.dK []) := upd_same
    generalize upd H DN (.dK []) = H1 at s1 eN ⊢
    refine sq fun U hU => ?_
    walk_at "rd"
    have ho1 := s1 _ _ ho
    refine ⟨_, SqL.of ho1, ?_⟩
    have nDo : o ≠ DN := fun q => by rw [q, hDN] at ho; cases ho
    refine for_enumL (xs := (List.range ks.length).map fun n : Nat => V.int n) (fun j σ H' => (∀ x o, x ≠ DN → H1 x = some o → H' x = some o) ∧ H' DN = some (.dK ((idP j).map ck)) ∧ ∃ y3 y4 y5 y6 y7 y8 y9, σ = [some (.ref a), some (.ref o), some (.ref DN), y3, y4, y5, y6, y7, y8, y9]) ⟨fun x o _ e => e, eN, none, none, none, none, none, none, none, rfl⟩ (fun j σ H' _ hp => SqL.of (hp.1 _ _ nDo ho1)) ?_ ?_
    · rintro j x σ H2 N hx ⟨k2, hN2, y3, y4, y5, y6, y7, y8, y9, rfl⟩ hN
      have jl := (List.getElem?_eq_some_iff.mp hx).1
      rw [List.length_map, List.length_range] at jl
      rw [List.getElem?_map, List.getElem?_range jl] at hx
      have hx : some (V.int (j : Nat)) = some x := hx
      cases hx
      have sN := same_new (o := HO.tup [V.int (j : Nat), V.int (j : Nat)]) hN
      have e3 : upd H2 N (.tup [.int (j : Nat), .int (j : Nat)]) N = some (.tup [.int (j : Nat), .int (j : Nat)]) := upd_same
      have hN3 := sN _ _ hN2
      have k3 : ∀ x o, x ≠ DN → H1 x = some o → upd H2 N (.tup [.int (j : Nat), .int (j : Nat)]) x = some o := fun x o n e => sN _ _ (k2 _ _ n e)
      generalize upd H2 N (.tup [.int (j : Nat), .int (j : Nat)]) = H3 at e3 hN3 k3 ⊢
      walk_at "rd"
      refine ⟨_, SqT.of e3, rfl, _, _, rfl, _, _, rfl, rfl, ?_⟩
      refine ⟨_, DPut.k (k := Sum.inl (j : Int)) hN3 (by rw [List.length_map]; have := congrArg List.length (idP_keys j); rw [List.length_map, List.length_range] at this; omega), fun x o n e => by rw [upd_ne n]; exact k3 _ _ n e, ?_, _, rfl⟩
      rw [upd_same, Tk.c_put (by rw [idP_keys]; simp), idP_step]
    rintro σ H2 ⟨k2, hN2, y3, y4, y5, y6, y7, y8, y9, rfl⟩
    rw [List.length_map, List.length_range] at hN2
    refine hU _ _ ?_
    clear hU
    refine sq fun U hU => ?_
    walk_at "rd"
    refine ⟨by omega, fun DW hDW => hU _ _ ?_⟩
    clear hU
    have sW := same_new (o := HO.lst []) hDW
    have eW : upd H2 DW (.lst []) DW = some (.lst []) := upd_same
    have hN3 := sW _ _ hN2
    have hW0 : H DW = none := by
      cases q : H DW with
      | none => rfl
      | some o' => rw [k2 _ _ (fun z => by rw [z, hDN] at q; cases q) (s1 _ _ q)] at hDW; cases hDW
    have k3 : Same H (upd H2 DW (.lst [])) := fun x o e => sW _ _ (k2 _ _ (fun z => by rw [z, hDN] at e; cases e) (s1 _ _ e))
    have nNW : DN ≠ DW := fun q => by rw [← q, hN2] at hDW; cases hDW
    generalize upd H2 DW (.lst []) = H3 at sW eW hN3 k3 ⊢
    clear sW k2 hN2 hDW
    refine sq fun U hU => ?_
    walk_at "rd"
    refine ⟨⟨_, SqL.of (k3 _ _ ho)⟩, for_l (xs := (List.range ks.length).map fun n : Nat => V.int n) (fun j σ H' => (∀ x o, x ≠ DW → H3 x = some o → H' x = some o) ∧ H' DW = some (.lst (((ks.take j).map wdK).map V.str)) ∧ ∃ y3 y4 y6 y7 y8 y9, σ = [some (.ref a), some (.ref o), some (.ref DN), y3, y4, some (.ref DW), y6, y7, y8, y9]) ⟨fun x o _ e => e, eW, y3, y4, y6, y7, y8, y9, rfl⟩ (fun j σ H' _ hp => SqL.of (hp.1 _ _ (fun q => by rw [q, hW0] at ho; cases ho) (k3 _ _ ho))) ?_ ?_⟩
    · rintro j x σ H4 hx ⟨k4, hW4, y3, y4, y6, y7, y8, y9, rfl⟩
      have jl := (List.getElem?_eq_some_iff.mp hx).1
      rw [List.length_map, List.length_range] at jl
      rw [List.getElem?_map, List.getElem?_range jl] at hx
      have hx : some (V.int (j : Nat)) = some x := hx
      cases hx
      have hk : ks[j]? = some ks[j] := List.getElem?_eq_getElem jl
      generalize ks[j] = kk at hk
      obtain ⟨A, hA⟩ : ∃ A, as[j]? = some A := ⟨_, List.getElem?_eq_getElem (by rw [kn.1]; exact jl)⟩
      have k04 : Same H H4 := fun x o e => k4 _ _ (fun q => by rw [q, hW0] at e; cases e) (k3 _ _ e)
      have eA : SqL K H4 A (knV kk) := SqL.of (k04 _ _ (kn.2 j A kk hA hk))
      obtain ⟨wf1, wf2⟩ := wf kk (List.mem_of_getElem? hk)
      refine sq fun U2 hU2 => ?_
      walk_at "rd"
      refine ⟨_, SqL.of (k04 _ _ ha), V.ref A, atI_nn (by omega) (by rw [Int.toNat_natCast, List.getElem?_map, hA]; rfl), ?_⟩
      refine ⟨A, rfl, _, eA, rfl, _, _, rfl, _, _, rfl, _, _, rfl, rfl, hU2 _ _ ?_⟩
      clear hU2
      refine sq fun U2 hU2 => ?_
      walk_at "rd"
      have mk := List.mem_of_getElem? hk
      have sub := ltr_sub mk
      have l4 := sub.length_le
      have r4 := rt.l4
      have nl : kk.nm.length = kk.nm.cps.toList.length := Array.length_toList.symm
      suffices fin : ∀ H5, Same H4 H5 → U2 [some (V.ref a), some (V.ref o), some (V.ref DN), y3, some (V.int j), some (V.ref DW), some (V.str kk.nm), some (V.str ⟨#[kk.sg]⟩), some (nxV kk.nx), some (V.str (nmS kk))] H5 by
        by_cases q : kk.nm = ""
        · rw [if_neg (fun h => h q)]
          have := fin H4 (Same.refl _)
          unfold nmS at this
          rw [if_pos q] at this
          exact this
        · rw [if_pos (by exact q)]
          refine ⟨⟨_, rfl⟩, kk.nm, rfl, by omega, fun ys p pys sys hp => ⟨p, rfl, ys, .inl (SqL.of upd_same), ?_, ?_⟩⟩
          · have z0 : (Str.ofString "").length = 0 := by decide
            have h1 := sum_le (fun s : Str => s.length) 1 ys fun x hx => by
              have := pys.mem_iff.mp hx
              unfold Es.sgs at this
              obtain ⟨c, _, rfl⟩ := List.mem_map.mp this
              exact Nat.le_refl _
            have h2 := pys.length_eq
            unfold Es.sgs at h2
            rw [List.length_map] at h2
            rw [z0]
            omega
          · obtain ⟨cs, rfl, cl, cp, _⟩ := sorted_L (fs := kk.nm.cps.toList) pys sys ⟨rt.nd.sublist sub, fun c hc => rt.lo c (sub.mem hc)⟩
            have ecs : cs = srtN kk.nm.cps.toList := by
              refine srtN_of ?_ (cp.imp fun h => Nat.le_of_lt h)
              have := pys.map fun s : Str => s.cps.toList.headD 0
              unfold Es.sgs at this
              rw [List.map_map, List.map_map] at this
              have e3 : ∀ fs : List Nat, (fs.map ((fun s : Str => s.cps.toList.headD 0) ∘ L1)) = fs := fun fs => (List.map_congr_left fun c _ => rfl).trans (List.map_id' fs)
              have e4 : ∀ fs : List Nat, (fs.map ((fun s : Str => s.cps.toList.headD 0) ∘ fun c => (⟨#[c]⟩ : Str))) = fs := fun fs => (List.map_congr_left fun c _ => rfl).trans (List.map_id' fs)
              rwa [e3, e4] at this
            have := fin _ (same_new (o := HO.lst ((cs.map L1).map V.str)) hp)
            unfold nmS at this
            rw [if_neg q, ← ecs] at this
            rw [join_L1]
            exact this
      intro H5 s5
      refine hU2 _ _ ?_
      clear hU2
      walk_at "rd"
      have hW5 := s5 _ _ hW4
      have nW5 : DN ≠ DW := nNW
      have hN5 := s5 _ _ (k4 _ _ nW5 hN3)
      have fin : ∀ x : Str, x = wdK kk → rAppend (V.ref DW) [V.str x] H5 fun x H1 => (∀ (x : Addr) (o : HO), x ≠ DW → H3 x = some o → H1 x = some o) ∧ H1 DW = some (HO.lst (List.map V.str (List.map wdK (List.take (j + 1) ks)))) ∧ ∃ x, some (V.str (nmS kk)) = x := fun x e => by
        refine ⟨DW, _, _, rfl, rfl, hW5, by rw [List.length_map, List.length_map, List.length_take]; omega, fun x o n e => by rw [upd_ne n]; exact s5 _ _ (k4 _ _ n e), ?_, _, rfl⟩
        rw [upd_same, List.take_succ, hk, List.map_append, List.map_append, e]
        rfl
      have nsl := nmS_len mk rt
      have z1 : (⟨#[kk.sg]⟩ : Str).length = 1 := rfl
      have z0 : (Str.ofString "").length = 0 := by decide
      have esg : ((⟨#[kk.sg]⟩ : Str) = Str.ofString ">") ↔ kk.sg = 62 := by
        have e : (Str.ofString ">") = ⟨#[62]⟩ := by decide +kernel
        rw [e]
        exact ⟨fun h => by injection h with h; injection h with h; injection h, fun h => by rw [h]⟩
      refine ⟨.inl ⟨rfl, _, SqL.of hW5⟩, by omega, ?_⟩
      by_cases q : kk.sg = 62
      · rw [if_pos (esg.mpr q)]
        obtain ⟨n, en⟩ := wf1 q
        have nlt := rt.nx kk mk n en
        rw [en]
        refine ⟨.int (n : Nat), ?_, n, rfl, ?_, ?_, fin _ ?_⟩
        · have := DGet.k (k := Sum.inl (n : Int)) hN5
          rw [Tk.c_get (l := idP ks.length) (i := n) (by rw [idP_keys]; exact List.nodup_range) (List.mem_map.mpr ⟨n, List.mem_range.mpr nlt, rfl⟩)] at this
          exact this
        · rw [Int.natAbs_natCast]
          by_cases z : n = 0
          · subst z; decide
          · exact Nat.lt_trans ((Nat.log2_lt z).mpr (show n < 2 ^ 12 by omega)) (by decide)
        · have h3 : (Str.ofString (toString (n : Int))).length ≤ 130 := intT_len (n := n) (by omega)
          rw [Str.length_append]
          omega
        · unfold wdK
          rw [en]
          rfl
      · rw [if_neg (fun h => q (esg.mp h))]
        refine ⟨by rw [Str.length_append]; omega, fin _ ?_⟩
        unfold wdK
        rw [wf2 q]
        rfl
    rintro σ H4 ⟨k4, hW4, y3, y4, y6, y7, y8, y9, rfl⟩
    rw [List.length_map, List.length_range, List.take_length] at hW4
    refine hU _ _ ?_
    clear hU
    walk_at "rd"
    have wl : ∀ w ∈ ks.map wdK, w.length ≤ 140 := fun w hw => by
      obtain ⟨kk, hk, rfl⟩ := List.mem_map.mp hw
      exact wdK_len hk kl rt
    have sl := sum_le (fun s : Str => s.length) 140 (ks.map wdK) wl
    rw [List.length_map] at sl
    have s1b : (" ":Str).length = 1 := by decide
    exact ⟨⟨_, rfl⟩, ks.map wdK, .inl (SqL.of hW4), by rw [s1b, List.length_map]; omega, k H4 fun x o e => k4 _ _ (fun q => by rw [q, hW0] at e; cases e) (k3 _ _ e)⟩
end
end K10

set_option Elab.async false
set_option linter.all false
set_option maxRecDepth 100000
set_option maxHeartbeats 4000000
namespace K10
open PySem PySem.Spec PyProof.Rows L2 Rd Dt Dq Pk Ln En Sx Sy So Sr Lk Rq
local macro_rules | `(tactic| walk_at "rd") => `(tactic| try simp only [↓Lk.tLockE_, ↓Lk.tLock_, ↓Lk.tLc_keys, ↓Lk.tFor_keys, ↓Sy.tTupP_, ↓Sy.rTupP_, ↓Sy.rCatP_, ↓Sy.rSlP_, ↓Sy.rDictT_, ↓Sy.tDGet_, ↓Sy.tDGet1_, ↓Sy.tDIn_, ↓Sy.tDNotIn_, ↓Sy.tMeth_, ↓Sy.tMethKw_, ↓Sy.rSortedS_, ↓Sx.rIsT_, ↓En.tFor_enumT, ↓Sy.tFor_enumL, ↓Rv.tMakeKw_, ↓Prp.tProp_, ↓Lo.tBits_, ↓Lo.tJs_n, ↓Lo.tJs_c, ↓Lo.tFmt_, ↓Lo.gFld_, ↓Lo.tMake_, ↓Lo.rOwn_, ↓Rg.tFor_range3, ↓Rg.tLc_range3, ↓Rg.tLstC_, ↓Rg.tLc_rngV, ↓Le.rNeLE_, ↓Le.rEqLE_, ↓Ls.tLc_str, ↓Ls.sDPut_, ↓Rl.rReprL_, ↓Rl.tCallKS_, ↓Ob.tFld_, ↓Ob.sFld_, ↓tVar_, ↓tC_, ↓tM1, ↓tDNewK_, ↓tOp_, ↓tUn_, ↓rI_, ↓rI0_, ↓rU_, ↓eq_ii, ↓ne_ii, ↓eq_ss, ↓ne_ss, ↓eq_bb, ↓ne_bb, ↓tAndV_, ↓tOrV_, ↓tNotV_, ↓tIf_, ↓tTest_, ↓tB_, ↓tAnd_, ↓tOr_, ↓tNot_, ↓tChain_, ↓tNil_, ↓tCons_, ↓tTup_, ↓tLst_, ↓tCB_, ↓tCall_, ↓tSeq_, ↓tNext_, ↓tRet_, ↓tRetN_, ↓tDrop_, ↓tBreak_, ↓tNever_, ↓tIfS_, ↓tAsg_, ↓gName_, ↓gTup_, ↓gCons_, ↓gNil_, ↓gSub_, ↓tPar_, ↓tPar3_, ↓tSl_, ↓tNoPart_, ↓tPart_, ↓tBM_, ↓tFor_range1, ↓tFor_range2, ↓tFor_list, ↓tFor_tup, L2.start, List.headD_cons, List.headD_nil, List.tail_cons, List.map_cons, List.map_nil, List.length_cons, List.length_nil, List.replicate, List.append_nil, List.nil_append, List.cons_append, List.getElem?_cons_zero, List.getElem?_cons_succ, List.set_cons_zero, List.set_cons_succ, Option.some.injEq, V.int.injEq, V.bl.injEq, V.str.injEq, V.ref.injEq, exists_eq_left, exists_eq_left', exists_eq_right, exists_eq, exists_and_left, and_true, true_and, decide_eq_true_eq, Nat.reduceAdd, Nat.reduceSub, Nat.add_zero, Nat.zero_add, List.cons.injEq, Bool.not_eq_true', decide_eq_false_iff_not, eq_self, reduceCtorEq, Bool.false_eq_true, if_true, if_false, ite_true, ite_false, and_self, ↓tLc_range1, ↓tLc_range2, ↓tLc_list, ↓tLc_tup, ↓tYes_, wipe0, wipe1, ↓tCallS_, ↓rIxL_, ↓rIxT_, ↓rSlL_, ↓rCat_, ↓rSetL_, ↓rRep_, ↓rGcd_, ↓tCallK_, ↓gUnl_, ↓tRaise_, decide_true, decide_false, not_true_eq_false, not_false_eq_true, false_and, or_false, false_or, and_false, and_assoc, exists_const, forall_const, forall_eq'])


section
variable {P : Program} {w : World} {K : PySem.W.Frag} {mg : Str → Option Value} {base : Heap}
/-! ### shape_knots -/
open Kp
theorem allK_facts : ∀ {ws : List Str} {ks : List Kn}, allK ws = some ks → ks.length = ws.length ∧ (ltrs ks).length ≤ (ws.map (·.length)).sum ∧ Kwf ks
  | [], ks, h => by
    cases h
    exact ⟨rfl, Nat.le_refl _, fun k h => by cases h⟩
  | w :: ws, ks, h => by
    unfold allK at h
    cases e : kwF w with
    | none => rw [e] at h; cases h
    | some k =>
      rw [e] at h
      have h : (allK ws).map (fun ks => k :: ks) = some ks := h
      obtain ⟨ks', e2, rfl⟩ := Option.map_eq_some_iff.mp h
      obtain ⟨h1, h2, h3⟩ := allK_facts e2
      have ek : k.nm.cps.toList.length ≤ w.length ∧ (k.sg = 62 → ∃ n, k.nx = some n) ∧ (k.sg ≠ 62 → k.nx = none) := by
        unfold kwF at e
        cases c : cutL w with
        | nil => rw [c] at e; cases e
        | cons c0 cl =>
          rw [c] at e
          have e : (if badW w c0 then none else some (knO w c0)) = some k := e
          by_cases b : badW w c0
          · rw [if_pos b] at e; cases e
          · rw [if_neg b] at e
            cases e
            refine ⟨?_, fun q => ⟨numD (rsO w c0), ?_⟩, fun q => ?_⟩
            · show (if nmO w c0 = "-" then ("" : Str) else nmO w c0).cps.toList.length ≤ _
              split
              · exact Nat.zero_le _
              · rw [Array.length_toList]
                exact cutS_length ..
            · have q : sgO w c0 = 62 := q
              show (if sgO w c0 = 62 then _ else _) = _
              rw [if_pos q]
            · have q : sgO w c0 ≠ 62 := q
              show (if sgO w c0 = 62 then _ else _) = _
              rw [if_neg q]
      refine ⟨by rw [List.length_cons, List.length_cons, h1], ?_, fun x hx => ?_⟩
      · rw [List.map_cons, List.sum_cons]
        show (k.nm.cps.toList ++ ltrs ks').length ≤ _
        rw [List.length_append]
        exact Nat.add_le_add ek.1 h2
      · rcases List.mem_cons.mp hx with rfl | hx
        · exact ek.2
        · exact h3 x hx
theorem kin_facts {s : Str} {ks : List Kn} (ok : SOk s) (h : kinF s = some ks) : ks.length ≤ 4001 ∧ (ltrs ks).length ≤ 4001 ∧ Kwf ks := by
  obtain ⟨h1, h2, h3⟩ := allK_facts h
  obtain ⟨_, sp1, _⟩ := _root_.Sp.split_k s 32 (by decide)
  have e32 : (Str.ofString " ") = ⟨#[32]⟩ := by decide +kernel
  rw [← e32] at sp1
  unfold _root_.Sp.jl at sp1
  have l4 := ok.1
  exact ⟨by omega, by omega, h3⟩
theorem dp_nats {H : Hp} {a : Addr} {l : List Nat} (h : H a = some (.lst (l.map fun n : Nat => V.int n))) : Dp K H (.ref a) (.list ((l.map fun n : Nat => (n : Int)).map .int)) := by
  refine .lst (SqL.of h) ?_
  clear h
  induction l with
  | nil => exact .nil
  | cons y ys ih => exact .cons (.int _) ih
theorem fit_nats {l : List Nat} (h : ∀ x ∈ l, x < 4096) : Fit (.list ((l.map fun n : Nat => (n : Int)).map .int)) 1 ((l.map fun n : Nat => (n : Int)).length * (13 + 3) + 3) :=
  fit_ints (k := 13) (by decide) (by decide) fun n hn => by
    obtain ⟨x, hx, rfl⟩ := List.mem_map.mp hn
    have := h x hx
    rw [Int.natAbs_natCast]
    omega
def spSh : Sp := fun vs H Q _ => ∃ s, vs = [.str s] ∧ SOk s ∧ (shF s = none → ∀ H', Same H H' → Q .non H') ∧ ∀ a ks H', ShOk s ks → Same H H' → H a = none → KnsAt H' a ks → Q (.ref a) H'
theorem sc_sh : FnScope ["value", "knots", "order"] ["value"] (defScope (top 22)) := ⟨rfl, rfl, rfl, by decide +kernel, rfl, by decide +kernel, by decide +kernel⟩
theorem ok_sh {f : Addr} {fd : FuncData} (T : Tx mg) (F : FD K "shape_knots" (top 22) f fd) {f1 f2 f3 f4 f5 : Addr} {fd1 fd2 fd3 fd4 fd5 : FuncData} (C1 : Cal P w K mg base CX0 1 "knots_in" ["shape"] spKin f1 fd1) (C2 : Cal P w K mg base CX0 1 "are_knots_right" ["knots"] (spRt P w) f2 fd2) (C3 : Cal P w K mg base CX0 1 "has_needless_knot" ["knots"] spNd f3 fd3) (C4 : Cal P w K mg base CX0 1 "knot_order" ["knots"] spKo f4 fd4) (C5 : Cal P w K mg base CX0 1 "shape_of_knots" ["knots", "order"] spSk f5 fd5) : FnOk P w K mg base CX0 2 f fd ["value"] spSh := by
  obtain ⟨gknots_in, kknots_in, bknots_in, Fknots_in⟩ := C1
  obtain ⟨gare_knots_right, kare_knots_right, bare_knots_right, Fare_knots_right⟩ := C2
  obtain ⟨ghas_needless_knot, khas_needless_knot, bhas_needless_knot, Fhas_needless_knot⟩ := C3
  obtain ⟨gknot_order, kknot_order, bknot_order, Fknot_order⟩ := C4
  obtain ⟨gshape_of_knots, kshape_of_knots, bshape_of_knots, Fshape_of_knots⟩ := C5
  refine F.ok sc_sh (fun vs H Q E h => ?_) (fun cdv A outer s H vs Q E hr h => ?_)
  · obtain ⟨_, rfl, _⟩ := h
    rfl
  · obtain ⟨z, rfl, ok, kno, kyes⟩ := h
    have nd := sc_sh.nd
    have zl : (1000000 : Nat) ≤ sizeLine := line_big
    refine ⟨_, (pss_cons (ps_set (i := 1) nd rfl (Or.inl rfl) (pe_ifExp (pt_val (pe_callB call_isi (by rfl) T.b_isinstance (by decide +kernel) (pa_cons (pv 0) (pa_cons (pe_bltn (v := .ty "str") rfl T.b_str (by decide +kernel) rfl) pa_nil)))) (pe_call Fknots_in (hr.mono (by omega)) rfl gknots_in kknots_in bknots_in .nil pass0 (pa_cons (pv 0) pa_nil)) pe_non))
        (pss_cons (ps_if (PW.pt (pw_or (pt_cmpR op_isN (pv 1) pe_non (nomark _)) (pw_or (pt_not (pt_val (pe_call Fare_knots_right (hr.mono (by omega)) rfl gare_knots_right kare_knots_right bare_knots_right .nil pass0 (pa_cons (pv 1) pa_nil)))) (pw_or1 (pt_val (pe_call Fhas_needless_knot (hr.mono (by omega)) rfl ghas_needless_knot khas_needless_knot bhas_needless_knot .nil pass0 (pa_cons (pv 1) pa_nil))))))) (pss_one (ps_ret pe_non)) pss_nil)
        (pss_cons (ps_set (i := 2) nd rfl (Or.inl rfl) (pe_call Fknot_order (hr.mono (by omega)) rfl gknot_order kknot_order bknot_order .nil pass0 (pa_cons (pv 1) pa_nil)))
        (pss_cons (ps_if (PW.pt (pw_or (pt_cmpR (op_neD hr.units) (pv 2) (pe_listRg rfl rfl T.b_list (prg_1 rfl T.b_range (pe_callB (Ck.call_lenK (K := K) rfl) (by rfl) T.b_len PySem.boot_len (pa_cons (pv 1) pa_nil)))) (nomark _)) (pw_or1 (pt_cmpR op_ne (pe_call Fshape_of_knots (hr.mono (by omega)) rfl gshape_of_knots kshape_of_knots bshape_of_knots .nil pass0 (pa_cons (pv 1) (pa_cons (pv 2) pa_nil))) (pv 0) (nomark _))))) (pss_one (ps_ret pe_non)) pss_nil)
        (pss_one (ps_ret (pv 1))))))), ?_⟩
    refine sq fun U hU => ?_
    walk_at "rd"
    refine ⟨_, _, .type "str", .type "str", true, rfl, .ty _, .base (.str _), rfl, _, rfl, ?_⟩
    rw [if_pos rfl]
    refine ⟨z, rfl, ok, fun kn0 H1 s1 => hU _ _ ?_, fun a ks H1 kn0 s1 a0 ka => hU _ _ ?_⟩
    · clear hU
      refine sq fun U hU => ?_
      walk_at "rd"
      exact kno (shF_no fun ks h => by rw [kn0] at h; cases h) H1 s1
    obtain ⟨kl, ll, wf⟩ := kin_facts ok kn0
    have no : ∀ H', Same H1 H' → ¬ ShOk z ks → Q .non H' := fun H' s' n => kno (shF_no fun ks' h => by
      rw [kn0] at h
      cases h
      exact n) H' (s1.trans s')
    clear hU
    refine sq fun U hU => ?_
    walk_at "rd"
    refine ⟨a, ks, rfl, ka, kl, ll, fun b H2 s2 eb => ⟨b, rfl, ?_⟩⟩
    cases b with
    | false =>
      rw [if_pos rfl]
      exact no _ s2 fun h => by
        have := eb.mpr h.rt
        cases this
    | true =>
    rw [if_neg (fun h => by cases h)]
    have rt := eb.mp rfl
    clear eb
    have ka2 := ka.up s2
    refine ⟨a, ks, rfl, ka2, kl, rt.nx, fun b H3 s3 eb => ⟨b, rfl, ?_⟩⟩
    cases b with
    | true =>
      rw [if_pos rfl]
      exact no _ (s2.trans s3) fun h => h.nn (eb.mp rfl)
    | false =>
    rw [if_neg (fun h => by cases h)]
    have nn : ¬ Needless ks := fun h => by have := eb.mpr h; cases this
    clear eb
    have ka3 := ka2.up s3
    have s13 := s2.trans s3
    refine hU _ _ ?_
    clear hU
    refine sq fun U hU => ?_
    walk_at "rd"
    refine ⟨a, ks, rfl, ka3, kl, rt, fun o H4 s4 ho4 eo ob => hU _ _ ?_⟩
    clear hU
    have ka4 := ka3.up s4
    have s14 := s13.trans s4
    refine sq fun U hU => ?_
    walk_at "rd"
    obtain ⟨as, ha4, kn4⟩ := ka4
    have kl2 := kn4.1
    show tRg1 _ _ _ _
    unfold tRg1
    walk_at "rd"
    refine ⟨_, .inl (SqL.of ha4), RgOk.of_le (by omega) (by rw [List.length_map]; omega) (by omega) (by omega), fun R hR => ?_⟩
    have eR : upd H4 R (.lst (rgV 0 (((as.map V.ref).length : Nat) : Int))) R = some (.lst ((List.range ks.length).map fun n : Nat => V.int n)) := by
      rw [upd_same]
      unfold rgV
      rw [List.length_map, kl2]
      congr 2
      rw [show (((ks.length : Nat) : Int) - 0).toNat = ks.length by omega]
      refine List.map_congr_left fun n _ => ?_
      rw [Int.zero_add]
    have s5 := same_new (o := HO.lst (rgV 0 (((as.map V.ref).length : Nat) : Int))) hR
    have eo5 := s5 _ _ eo
    have ka5 : KnsAt (upd H4 R (.lst (rgV 0 (((as.map V.ref).length : Nat) : Int)))) a ks := ⟨as, s5 _ _ ha4, kn4.up s5⟩
    have s15 := s14.trans s5
    generalize upd H4 R (.lst (rgV 0 (((as.map V.ref).length : Nat) : Int))) = H5 at eR eo5 ka5 s15 ⊢
    refine rNeD_ (fit_nats fun x hx => by have := ob x hx; omega) (fit_nats fun x hx => by have := List.mem_range.mp hx; omega) (by decide) (by decide) (dp_nats eo5) (dp_nats eR) ?_
    rw [eqv_listI]
    have inj : ∀ l m : List Nat, (l.map fun n : Nat => (n : Int)) = m.map (fun n : Nat => (n : Int)) ↔ l = m := fun l m =>
      ⟨fun h => List.map_inj_right (fun x y e => Int.ofNat.inj e) |>.mp h, fun h => by rw [h]⟩
    refine ⟨_, rfl, ?_⟩
    by_cases q : ordK ks = List.range ks.length
    rotate_left
    · rw [if_pos (by rw [Bool.not_eq_true', decide_eq_false_iff_not]; exact fun h => q ((inj _ _).mp h))]
      exact no _ s15 fun h => q h.od
    rw [if_neg (by rw [Bool.not_eq_true', decide_eq_false_iff_not]; exact fun h => h ((inj _ _).mpr q))]
    rw [q] at eo5
    refine ⟨a, o, ks, rfl, ka5, eo5, kl, rt, wf, fun H6 s6 => ?_⟩
    simp only [ne_ss]
    refine ⟨_, rfl, ?_⟩
    by_cases q2 : shTx ks = z
    rotate_left
    · rw [if_pos (by rw [Bool.not_eq_true', decide_eq_false_iff_not]; exact q2)]
      exact no _ (s15.trans s6) fun h => q2 h.tx
    rw [if_neg (by rw [Bool.not_eq_true', decide_eq_false_iff_not]; exact fun h => h q2)]
    refine hU _ _ ?_
    clear hU
    walk_at "rd"
    exact kyes a ks _ ⟨kn0, rt, nn, q, q2⟩ (s1.trans (s15.trans s6)) a0 (ka5.up s6)
end
end K10

set_option Elab.async false
set_option linter.all false
set_option maxRecDepth 100000
set_option maxHeartbeats 4000000
namespace K10
open PySem PySem.Spec PyProof.Rows L2 Rd Dt Dq Pk Ln En Sx Sy So Sr Lk Rq
local macro_rules | `(tactic| walk_at "rd") => `(tactic| try simp only [↓Lk.tLockE_, ↓Lk.tLock_, ↓Lk.tLc_keys, ↓Lk.tFor_keys, ↓Sy.tTupP_, ↓Sy.rTupP_, ↓Sy.rCatP_, ↓Sy.rSlP_, ↓Sy.rDictT_, ↓Sy.tDGet_, ↓Sy.tDGet1_, ↓Sy.tDIn_, ↓Sy.tDNotIn_, ↓Sy.tMeth_, ↓Sy.tMethKw_, ↓Sy.rSortedS_, ↓Sx.rIsT_, ↓En.tFor_enumT, ↓Sy.tFor_enumL, ↓Rv.tMakeKw_, ↓Prp.tProp_, ↓Lo.tBits_, ↓Lo.tJs_n, ↓Lo.tJs_c, ↓Lo.tFmt_, ↓Lo.gFld_, ↓Lo.tMake_, ↓Lo.rOwn_, ↓Rg.tFor_range3, ↓Rg.tLc_range3, ↓Rg.tLstC_, ↓Rg.tLc_rngV, ↓Le.rNeLE_, ↓Le.rEqLE_, ↓Ls.tLc_str, ↓Ls.sDPut_, ↓Rl.rReprL_, ↓Rl.tCallKS_, ↓Ob.tFld_, ↓Ob.sFld_, ↓tVar_, ↓tC_, ↓tM1, ↓tDNewK_, ↓tOp_, ↓tUn_, ↓rI_, ↓rI0_, ↓rU_, ↓eq_ii, ↓ne_ii, ↓eq_ss, ↓ne_ss, ↓eq_bb, ↓ne_bb, ↓tAndV_, ↓tOrV_, ↓tNotV_, ↓tIf_, ↓tTest_, ↓tB_, ↓tAnd_, ↓tOr_, ↓tNot_, ↓tChain_, ↓tNil_, ↓tCons_, ↓tTup_, ↓tLst_, ↓tCB_, ↓tCall_, ↓tSeq_, ↓tNext_, ↓tRet_, ↓tRetN_, ↓tDrop_, ↓tBreak_, ↓tNever_, ↓tIfS_, ↓tAsg_, ↓gName_, ↓gTup_, ↓gCons_, ↓gNil_, ↓gSub_, ↓tPar_, ↓tPar3_, ↓tSl_, ↓tNoPart_, ↓tPart_, ↓tBM_, ↓tFor_range1, ↓tFor_range2, ↓tFor_list, ↓tFor_tup, L2.start, List.headD_cons, List.headD_nil, List.tail_cons, List.map_cons, List.map_nil, List.length_cons, List.length_nil, List.replicate, List.append_nil, List.nil_append, List.cons_append, List.getElem?_cons_zero, List.getElem?_cons_succ, List.set_cons_zero, List.set_cons_succ, Option.some.injEq, V.int.injEq, V.bl.injEq, V.str.injEq, V.ref.injEq, exists_eq_left, exists_eq_left', exists_eq_right, exists_eq, exists_and_left, and_true, true_and, decide_eq_true_eq, Nat.reduceAdd, Nat.reduceSub, Nat.add_zero, Nat.zero_add, List.cons.injEq, Bool.not_eq_true', decide_eq_false_iff_not, eq_self, reduceCtorEq, Bool.false_eq_true, if_true, if_false, ite_true, ite_false, and_self, ↓tLc_range1, ↓tLc_range2, ↓tLc_list, ↓tLc_tup, ↓tYes_, wipe0, wipe1, ↓tCallS_, ↓rIxL_, ↓rIxT_, ↓rSlL_, ↓rCat_, ↓rSetL_, ↓rRep_, ↓rGcd_, ↓tCallK_, ↓gUnl_, ↓tRaise_, decide_true, decide_false, not_true_eq_false, not_false_eq_true, false_and, or_false, false_or, and_false, and_assoc, exists_const, forall_const, forall_eq'])


section
variable {P : Program} {w : World} {K : PySem.W.Frag} {mg : Str → Option Value} {base : Heap}
/-! ### the words of a store's plan are a shape: plain -/
open Kp TL
theorem str_eq {s t : Str} (h : s.cps.toList = t.cps.toList) : s = t := by
  cases s; cases t
  rw [Array.toList_inj] at h
  have h : _ = _ := h
  subst h
  rfl
theorem cutL_of {w : Str} {A B : List Nat} {s : Nat} (hw : w.cps.toList = A ++ s :: B) (hs : s ∈ [46, 33, 62]) (hA : ∀ c ∈ A, c ∉ [46, 33, 62]) : ∃ l, cutL w = A.length :: l := by
  unfold cutL
  have e : w.cps.toList.length = A.length + (B.length + 1) := by rw [hw, List.length_append, List.length_cons]
  rw [e, List.range_add, List.filter_append]
  have e1 : (List.range A.length).filter (cutB w) = [] := by
    rw [List.filter_eq_nil_iff]
    intro i hi
    have hi := List.mem_range.mp hi
    unfold cutB
    rw [hw, List.getElem?_append_left hi, List.getElem?_eq_getElem hi, decide_eq_true_eq]
    exact hA _ (List.getElem_mem _)
  rw [e1, List.nil_append, List.range_succ_eq_map, List.map_cons, List.filter_cons, if_pos]
  · exact ⟨_, rfl⟩
  · unfold cutB
    rw [Nat.add_zero, hw, List.getElem?_append_right (Nat.le_refl _), Nat.sub_self, decide_eq_true_eq]
    exact hs
theorem nmO_of {w : Str} {A B : List Nat} {s : Nat} (hw : w.cps.toList = A ++ s :: B) : nmO w A.length = strOfL A := by
  refine str_eq ?_
  have e : w.cps.toList.length = A.length + (B.length + 1) := by rw [hw, List.length_append, List.length_cons]
  have e0 : w.length = w.cps.toList.length := Array.length_toList.symm
  show ((w.cps.toList.drop (HT.sIx w.length 0 none)).take (HT.sIx w.length w.length (some (A.length : Int)) - HT.sIx w.length 0 none)).toArray.toList = A
  rw [List.toList_toArray, HT.sIx_none, HT.sIx_nat, List.drop_zero, Nat.sub_zero, hw, Nat.min_eq_left (by omega), List.take_left']
  rfl
theorem sgO_of {w : Str} {A B : List Nat} {s : Nat} (hw : w.cps.toList = A ++ s :: B) : sgO w A.length = s := by
  unfold sgO
  rw [hw, List.getElem?_append_right (Nat.le_refl _), Nat.sub_self]
  rfl
theorem rsO_of {w : Str} {A B : List Nat} {s : Nat} (hw : w.cps.toList = A ++ s :: B) : rsO w A.length = strOfL B := by
  refine str_eq ?_
  have e : w.cps.toList.length = A.length + (B.length + 1) := by rw [hw, List.length_append, List.length_cons]
  have e0 : w.length = w.cps.toList.length := Array.length_toList.symm
  show ((w.cps.toList.drop (HT.sIx w.length 0 (some ((A.length + 1 : Nat) : Int)))).take (HT.sIx w.length w.length none - HT.sIx w.length 0 (some ((A.length + 1 : Nat) : Int)))).toArray.toList = B
  rw [List.toList_toArray, HT.sIx_none, HT.sIx_nat, Nat.min_eq_left (by omega), hw]
  have e2 : A ++ s :: B = (A ++ [s]) ++ B := by simp
  rw [e2, List.drop_left' (by simp), List.take_of_length_le (by omega)]
/-- a word told by its parts -/
theorem kw_of {w : Str} {A B : List Nat} {s : Nat} (hw : w.cps.toList = A ++ s :: B) (hs : s ∈ [46, 33, 62]) (hA : ∀ c ∈ A, c ∉ [46, 33, 62]) (A0 : A ≠ []) (hd : decide (s = 62) = Txt.isdigit (strOfL B)) (hb : s ≠ 62 → B = []) (h2 : B.length ≤ 2) :
    kwF w = some ⟨if A = [45] then "" else strOfL A, s, if s = 62 then some (numD (strOfL B)) else none⟩ := by
  obtain ⟨l, e⟩ := cutL_of hw hs hA
  have nz : ∀ C : List Nat, strOfL C = "" ↔ C = [] := fun C => by
    have e : (Str.ofString "") = strOfL [] := by decide +kernel
    rw [e]
    constructor
    · intro h
      injection h with h
      have := congrArg Array.toList h
      simpa using this
    · intro h; rw [h]
  have nb : ¬ badW w A.length := by
    unfold badW
    rw [nmO_of hw, sgO_of hw, rsO_of hw]
    rintro (h | h | ⟨h1, h2⟩ | h)
    · exact A0 ((nz A).mp h)
    · exact h hd
    · exact h2 ((nz B).mpr (hb h1))
    · have : (strOfL B).length = B.length := List.size_toArray ..
      omega
  unfold kwF
  rw [e]
  show (if badW w A.length then none else some (knO w A.length)) = _
  rw [if_neg nb]
  unfold knO
  rw [nmO_of hw, sgO_of hw, rsO_of hw]
  have e45 : strOfL A = "-" ↔ A = [45] := by
    have e : (Str.ofString "-") = strOfL [45] := by decide +kernel
    rw [e]
    constructor
    · intro h
      injection h with h
      have := congrArg Array.toList h
      simpa using this
    · intro h; rw [h]
  by_cases q : A = [45]
  · rw [if_pos q, if_pos (e45.mpr q)]
  · rw [if_neg q, if_neg (fun h => q (e45.mp h))]
/-! the knots of a store -/
section
variable {cs ns : List (Nat × Nat)}
def nmN (ns : List (Nat × Nat)) (p : Nat) : List Nat := (ns.filter fun n => decide (n.2 = p)).map (·.1)
def sgP (cs : List (Nat × Nat)) (p : Nat) : Nat := if (look cs p).isNone = true then (if p = 0 then 46 else 33) else 62
def ldP (cs : List (Nat × Nat)) (F : List Nat) (nx : Nat → Option Nat) (p : Nat) : Option Nat := if (look cs p).isNone = true then none else some (F.idxOf ((nx p).getD 0))
def knP (cs ns : List (Nat × Nat)) (F : List Nat) (nx : Nat → Option Nat) (p : Nat) : Kn := ⟨strOfL (nmN ns p), sgP cs p, ldP cs F nx p⟩
theorem atP_nm (p : Nat) : Txt.join (Str.ofString "") (atP ns p) = strOfL (nmN ns p) := by
  have e : atP ns p = (nmN ns p).map L1 := by
    unfold atP nmN
    rw [List.map_map]
    rfl
  rw [e, join_L1]
theorem strL_nil {C : List Nat} : strOfL C = "" ↔ C = [] := by
  have e : (Str.ofString "") = strOfL [] := by decide +kernel
  rw [e]
  constructor
  · intro h
    injection h with h
    have := congrArg Array.toList h
    simpa using this
  · intro h; rw [h]
theorem nmT_tl (p : Nat) : (nmT ns p).cps.toList = if nmN ns p = [] then [45] else nmN ns p := by
  have e : nmT ns p = if strOfL (nmN ns p) = "" then ("-" : Str) else strOfL (nmN ns p) := by
    unfold nmT
    have := atP_nm (ns := ns) p
    rw [show Txt.join "" (atP ns p) = strOfL (nmN ns p) from this]
  rw [e]
  by_cases q : nmN ns p = []
  · rw [if_pos q, if_pos (strL_nil.mpr q)]
    decide +kernel
  · rw [if_neg q, if_neg (fun h => q (strL_nil.mp h))]
    exact List.toList_toArray ..
def rsB (cs : List (Nat × Nat)) (F : List Nat) (nx : Nat → Option Nat) (p : Nat) : List Nat := if (look cs p).isNone = true then [] else (Ln.numT (F.idxOf ((nx p).getD 0))).cps.toList
theorem wd_tl (F : List Nat) (nx : Nat → Option Nat) (p : Nat) : (wdT cs ns F nx p).cps.toList = (if nmN ns p = [] then [45] else nmN ns p) ++ sgP cs p :: rsB cs F nx p := by
  show TL.tl (wdT cs ns F nx p) = _
  unfold wdT
  rw [tl_append]
  congr 1
  · exact nmT_tl p
  · unfold sgP rsB
    by_cases q : (look cs p).isNone = true
    · rw [if_pos q, if_pos q, if_pos q]
      by_cases q2 : p = 0
      · rw [if_pos q2, if_pos q2]
        decide +kernel
      · rw [if_neg q2, if_neg q2]
        decide +kernel
    · rw [if_neg q, if_neg q, if_neg q, tl_append]
      have : TL.tl (Str.ofString ">") = [62] := by decide +kernel
      show TL.tl (Str.ofString ">") ++ _ = _
      rw [this]
      rfl
theorem sgP_in (p : Nat) : sgP cs p ∈ [46, 33, 62] := by
  unfold sgP
  split
  · split <;> simp
  · simp
theorem nm_lo (okn : NmOk ns) (p : Nat) : ∀ c ∈ nmN ns p, 97 ≤ c ∧ c ≤ 122 := fun c hc => by
  obtain ⟨n, hn, rfl⟩ := List.mem_map.mp hc
  have := okn.2.2.1 n (List.mem_filter.mp hn).1
  exact ⟨this.1, this.2.1⟩
theorem wd_kw (okn : NmOk ns) {F : List Nat} {nx : Nat → Option Nat} {p : Nat} (hi : F.idxOf ((nx p).getD 0) ≤ 99) : kwF (wdT cs ns F nx p) = some (knP cs ns F nx p) := by
  obtain ⟨a1, a2, a3, a4⟩ := numT_at (n := F.idxOf ((nx p).getD 0)) (by omega)
  have ln2 : (Ln.numT (F.idxOf ((nx p).getD 0))).cps.toList.length ≤ 2 := by
    have : nl (F.idxOf ((nx p).getD 0)) ≤ nl 99 := nl_mono hi
    rw [← a1] at this
    have e : nl 99 = 2 := by decide
    rw [Array.length_toList]
    exact e ▸ this
  have eN : strOfL (Ln.numT (F.idxOf ((nx p).getD 0))).cps.toList = Ln.numT (F.idxOf ((nx p).getD 0)) := str_eq (List.toList_toArray ..)
  have := kw_of (wd_tl (ns := ns) (cs := cs) F nx p) (sgP_in p) (fun c hc => ?_) (by split <;> simp_all) ?_ ?_ ?_
  · rw [this]
    unfold knP
    congr 2
    · by_cases q : nmN ns p = []
      · rw [if_pos q, if_pos rfl, q]
        decide +kernel
      · rw [if_neg q, if_neg]
        intro e
        have := nm_lo okn p 45 (by rw [e]; simp)
        omega
    · unfold sgP ldP rsB
      by_cases q : (look cs p).isNone = true
      · rw [if_pos q, if_pos q, if_pos q, if_neg]
        intro z
        by_cases q2 : p = 0
        · rw [if_pos q2] at z
          omega
        · rw [if_neg q2] at z
          omega
      · rw [if_neg q, if_neg q, if_neg q, if_pos rfl, eN]
        unfold numD
        rw [a2]
        rfl
  · intro z
    have lo : 97 ≤ c ∨ c = 45 := by
      by_cases q : nmN ns p = []
      · rw [if_pos q] at hc
        exact .inr (List.mem_singleton.mp hc)
      · rw [if_neg q] at hc
        exact .inl (nm_lo okn p c hc).1
    simp only [List.mem_cons, List.not_mem_nil, or_false] at z
    omega
  · unfold sgP rsB
    by_cases q : (look cs p).isNone = true
    · rw [if_pos q, if_pos q]
      have e : Txt.isdigit (strOfL []) = false := by decide +kernel
      rw [e]
      split <;> decide
    · rw [if_neg q, if_neg q, eN]
      have : Txt.isdigit (Ln.numT (F.idxOf ((nx p).getD 0))) = true := by
        unfold Txt.isdigit
        rw [Bool.and_eq_true, decide_eq_true_eq]
        refine ⟨by rw [a1]; exact (nl_pos _).1, ?_⟩
        rw [Array.all_eq_true_iff_forall_mem]
        intro c hc
        have := a3 c (Array.mem_toList_iff.mpr hc)
        have dg : ∀ a : _root_.Fin 10, Unicode.isDigit (48 + a.val) = true := by decide +kernel
        have := dg ⟨c - 48, by omega⟩
        have e : 48 + (c - 48) = c := by omega
        simp only [e] at this
        exact this
      rw [this]
      rfl
  · intro h
    unfold sgP at h
    unfold rsB
    by_cases q : (look cs p).isNone = true
    · rw [if_pos q]
    · rw [if_neg q] at h; exact absurd rfl h
  · unfold rsB
    split
    · exact Nat.zero_le _
    · exact ln2
end
end
end K10

set_option Elab.async false
set_option linter.all false
set_option maxRecDepth 100000
set_option maxHeartbeats 4000000
namespace K10
open PySem PySem.Spec PyProof.Rows L2 Rd Dt Dq Pk Ln En Sx Sy So Sr Lk Rq
local macro_rules | `(tactic| walk_at "rd") => `(tactic| try simp only [↓Lk.tLockE_, ↓Lk.tLock_, ↓Lk.tLc_keys, ↓Lk.tFor_keys, ↓Sy.tTupP_, ↓Sy.rTupP_, ↓Sy.rCatP_, ↓Sy.rSlP_, ↓Sy.rDictT_, ↓Sy.tDGet_, ↓Sy.tDGet1_, ↓Sy.tDIn_, ↓Sy.tDNotIn_, ↓Sy.tMeth_, ↓Sy.tMethKw_, ↓Sy.rSortedS_, ↓Sx.rIsT_, ↓En.tFor_enumT, ↓Sy.tFor_enumL, ↓Rv.tMakeKw_, ↓Prp.tProp_, ↓Lo.tBits_, ↓Lo.tJs_n, ↓Lo.tJs_c, ↓Lo.tFmt_, ↓Lo.gFld_, ↓Lo.tMake_, ↓Lo.rOwn_, ↓Rg.tFor_range3, ↓Rg.tLc_range3, ↓Rg.tLstC_, ↓Rg.tLc_rngV, ↓Le.rNeLE_, ↓Le.rEqLE_, ↓Ls.tLc_str, ↓Ls.sDPut_, ↓Rl.rReprL_, ↓Rl.tCallKS_, ↓Ob.tFld_, ↓Ob.sFld_, ↓tVar_, ↓tC_, ↓tM1, ↓tDNewK_, ↓tOp_, ↓tUn_, ↓rI_, ↓rI0_, ↓rU_, ↓eq_ii, ↓ne_ii, ↓eq_ss, ↓ne_ss, ↓eq_bb, ↓ne_bb, ↓tAndV_, ↓tOrV_, ↓tNotV_, ↓tIf_, ↓tTest_, ↓tB_, ↓tAnd_, ↓tOr_, ↓tNot_, ↓tChain_, ↓tNil_, ↓tCons_, ↓tTup_, ↓tLst_, ↓tCB_, ↓tCall_, ↓tSeq_, ↓tNext_, ↓tRet_, ↓tRetN_, ↓tDrop_, ↓tBreak_, ↓tNever_, ↓tIfS_, ↓tAsg_, ↓gName_, ↓gTup_, ↓gCons_, ↓gNil_, ↓gSub_, ↓tPar_, ↓tPar3_, ↓tSl_, ↓tNoPart_, ↓tPart_, ↓tBM_, ↓tFor_range1, ↓tFor_range2, ↓tFor_list, ↓tFor_tup, L2.start, List.headD_cons, List.headD_nil, List.tail_cons, List.map_cons, List.map_nil, List.length_cons, List.length_nil, List.replicate, List.append_nil, List.nil_append, List.cons_append, List.getElem?_cons_zero, List.getElem?_cons_succ, List.set_cons_zero, List.set_cons_succ, Option.some.injEq, V.int.injEq, V.bl.injEq, V.str.injEq, V.ref.injEq, exists_eq_left, exists_eq_left', exists_eq_right, exists_eq, exists_and_left, and_true, true_and, decide_eq_true_eq, Nat.reduceAdd, Nat.reduceSub, Nat.add_zero, Nat.zero_add, List.cons.injEq, Bool.not_eq_true', decide_eq_false_iff_not, eq_self, reduceCtorEq, Bool.false_eq_true, if_true, if_false, ite_true, ite_false, and_self, ↓tLc_range1, ↓tLc_range2, ↓tLc_list, ↓tLc_tup, ↓tYes_, wipe0, wipe1, ↓tCallS_, ↓rIxL_, ↓rIxT_, ↓rSlL_, ↓rCat_, ↓rSetL_, ↓rRep_, ↓rGcd_, ↓tCallK_, ↓gUnl_, ↓tRaise_, decide_true, decide_false, not_true_eq_false, not_false_eq_true, false_and, or_false, false_or, and_false, and_assoc, exists_const, forall_const, forall_eq'])


section
variable {P : Program} {w : World} {K : PySem.W.Frag} {mg : Str → Option Value} {base : Heap}
/-! ### the knots of a store are right: plain -/
open Kp TL
theorem perm_group {ns : List (Nat × Nat)} : ∀ {F : List Nat}, F.Nodup → (F.flatMap fun p => ns.filter fun n => decide (n.2 = p)).Perm (ns.filter fun n => decide (n.2 ∈ F))
  | [], _ => by
    have : ns.filter (fun n => decide (n.2 ∈ ([] : List Nat))) = [] := by
      rw [List.filter_eq_nil_iff]
      intro a _
      simp
    rw [this]
    exact .refl _
  | p :: F, nd => by
    obtain ⟨n1, n2⟩ := List.nodup_cons.mp nd
    have h := List.filter_append_perm (fun n : Nat × Nat => decide (n.2 = p)) (ns.filter fun n => decide (n.2 ∈ p :: F))
    rw [List.filter_filter, List.filter_filter] at h
    have e1 : ns.filter (fun n => decide (n.2 = p) && decide (n.2 ∈ p :: F)) = ns.filter fun n => decide (n.2 = p) := by
      refine List.filter_congr fun n _ => ?_
      by_cases q : n.2 = p
      · rw [decide_eq_true q, decide_eq_true (by rw [q]; exact List.mem_cons_self ..)]; rfl
      · rw [decide_eq_false q]; rfl
    have e2 : ns.filter (fun n => !decide (n.2 = p) && decide (n.2 ∈ p :: F)) = ns.filter fun n => decide (n.2 ∈ F) := by
      refine List.filter_congr fun n _ => ?_
      by_cases q : n.2 = p
      · rw [decide_eq_true q, decide_eq_false (fun h => n1 (q ▸ h))]; rfl
      · rw [decide_eq_false q, show decide (n.2 ∈ p :: F) = decide (n.2 ∈ F) from decide_eq_decide.mpr ⟨fun h => (List.mem_cons.mp h).elim (fun e => absurd e q) id, fun h => List.mem_cons_of_mem _ h⟩]; rfl
    rw [e1, e2] at h
    rw [List.flatMap_cons]
    exact ((perm_group n2).append_left _).trans h
section
variable {cs ns : List (Nat × Nat)} {R : List Nat}
/-- all that is known of a store's knots -/
structure StK (cs ns : List (Nat × Nat)) (R F : List Nat) : Prop where
  okn : NmOk ns
  hw : ∀ n ∈ ns, ∃ W e, Way cs n.2 W e
  nd : R.Nodup
  eR : R = comeF cs ns
  eF : F = knF cs ns (knB cs ns R)
abbrev nxF (cs ns : List (Nat × Nat)) (R : List Nat) : Nat → Option Nat := Kt.nxt cs (knB cs ns R) (cs.length + 1)
def ksF (cs ns : List (Nat × Nat)) (R F : List Nat) : List Kn := F.map (knP cs ns F (nxF cs ns R))
variable {F : List Nat}
theorem way_head {p e : Nat} {W : List Nat} (w : Way cs p W e) : (W ++ [e]).head? = some p := by
  cases W with
  | nil =>
    have := w.ch
    cases this
    rfl
  | cons x W =>
    obtain rfl := w.ch.hd
    rfl
theorem StK.name (S : StK cs ns R F) {n : Nat × Nat} (hn : n ∈ ns) : n.2 ∈ F := by
  obtain ⟨W, e, w⟩ := S.hw n hn
  rw [S.eF, mem_kn]
  refine ⟨n, hn, ?_, ?_⟩
  · rw [wayOf_eq w]
    exact List.mem_of_mem_head? (Option.mem_def.mpr (way_head w))
  · unfold knB
    rw [decide_eq_true (List.mem_map_of_mem hn)]
    simp
theorem StK.nodup (S : StK cs ns R F) : F.Nodup := by rw [S.eF]; exact kn_nodup
theorem StK.kn (S : StK cs ns R F) {p : Nat} (h : p ∈ F) : knB cs ns R p = true := by
  rw [S.eF, mem_kn] at h
  obtain ⟨_, _, _, h⟩ := h
  exact h
theorem StK.nx (S : StK cs ns R F) {p y : Nat} (h : p ∈ F) (hy : look cs p = some y) : ∃ q, nxF cs ns R p = some q ∧ q ∈ F := by
  obtain ⟨U, q, _, hq, _, _, _, e⟩ := str_ex S.hw S.nd S.eR (by rw [← S.eF]; exact h) hy
  exact ⟨q, e, by rw [S.eF]; exact hq⟩
theorem ltrs_ksF : ltrs (ksF cs ns R F) = (F.flatMap fun p => ns.filter fun n => decide (n.2 = p)).map (·.1) := by
  unfold ltrs ksF
  rw [List.flatMap_map, List.map_flatMap, List.flatMap_def, List.flatMap_def]
  refine congrArg List.flatten (List.map_congr_left fun p _ => ?_)
  show (strOfL (nmN ns p)).cps.toList = _
  unfold strOfL
  rw [List.toList_toArray]
  rfl
theorem StK.perm (S : StK cs ns R F) : (ltrs (ksF cs ns R F)).Perm (ns.map (·.1)) := by
  rw [ltrs_ksF]
  refine List.Perm.map _ ((perm_group S.nodup).trans ?_)
  rw [List.filter_eq_self.mpr fun n hn => decide_eq_true (S.name hn)]
theorem StK.rt (S : StK cs ns R F) : KRt (ksF cs ns R F) := by
  have pm := S.perm
  have asc : (ns.map (·.1)).Pairwise (· < ·) := List.pairwise_map.mpr S.okn.2.2.2
  refine ⟨?_, ?_, ?_, ?_, ?_, ?_⟩
  · rw [pm.length_eq, List.length_map]; exact S.okn.1
  · rw [pm.length_eq, List.length_map]; exact S.okn.2.1
  · exact pm.nodup_iff.mpr (asc.imp fun h => Nat.ne_of_lt h)
  · intro c hc
    obtain ⟨n, hn, rfl⟩ := List.mem_map.mp (pm.mem_iff.mp hc)
    have := S.okn.2.2.1 n hn
    exact ⟨this.1, this.2.1⟩
  · unfold ksF
    rw [List.filter_map, List.length_map]
    have h := nodup_le (l := F.filter ((fun k : Kn => decide (k.sg = 46)) ∘ knP cs ns F (nxF cs ns R))) (m := [0]) (S.nodup.filter _) fun x hx => by
      have h2 := (List.mem_filter.mp hx).2
      have h3 : sgP cs x = 46 := of_decide_eq_true h2
      unfold sgP at h3
      by_cases q : (look cs x).isNone = true
      · rw [if_pos q] at h3
        by_cases q2 : x = 0
        · rw [q2]; simp
        · rw [if_neg q2] at h3; omega
      · rw [if_neg q] at h3; omega
    exact h
  · intro k hk n hn
    obtain ⟨p, hp, rfl⟩ := List.mem_map.mp hk
    have hn : ldP cs F (nxF cs ns R) p = some n := hn
    unfold ldP at hn
    by_cases q : (look cs p).isNone = true
    · rw [if_pos q] at hn; cases hn
    · rw [if_neg q] at hn
      cases e : look cs p with
      | none => rw [e] at q; exact absurd rfl q
      | some y =>
        obtain ⟨r, h1, h2⟩ := S.nx hp e
        rw [h1] at hn
        cases hn
        unfold ksF
        rw [List.length_map]
        exact List.idxOf_lt_length_iff.mpr h2
/-! the words, cut again -/
theorem StK.kin (S : StK cs ns R F) (l : F.length ≤ 99) : kinF (Txt.join " " (F.map (wdT cs ns F (nxF cs ns R)))) = some (ksF cs ns R F) := by
  unfold kinF
  have sp : Txt.split (Txt.join " " (F.map (wdT cs ns F (nxF cs ns R)))) " " = F.map (wdT cs ns F (nxF cs ns R)) := by
    refine split_join tl_spc (by decide +kernel) (fun z => ?_) fun p hp => ?_
    · have e := List.map_eq_nil_iff.mp z
      obtain ⟨n, hn⟩ : ∃ n, n ∈ ns := by
        have := S.okn.1
        cases ns with
        | nil => exact absurd this (by decide)
        | cons n ns => exact ⟨n, List.mem_cons_self ..⟩
      have := S.name hn
      rw [e] at this
      cases this
    · obtain ⟨x, hx, rfl⟩ := List.mem_map.mp hp
      intro z
      have z : (32 : Nat) ∈ (wdT cs ns F (nxF cs ns R) x).cps.toList := z
      rw [wd_tl] at z
      have il : F.idxOf ((nxF cs ns R x).getD 0) ≤ 1000 := Nat.le_trans List.idxOf_le_length (by omega)
      rcases List.mem_append.mp z with z | z
      · split at z
        · simp at z
        · have := nm_lo S.okn x 32 z; omega
      · rcases List.mem_cons.mp z with z | z
        · have := sgP_in (cs := cs) x
          rw [← z] at this
          simp at this
        · unfold rsB at z
          split at z
          · cases z
          · have := (numT_at il).2.2.1 32 z
            omega
  rw [sp]
  refine allK_of ?_
  unfold ksF
  rw [List.map_map, List.map_map]
  refine List.map_congr_left fun p hp => ?_
  exact wd_kw S.okn (Nat.le_trans List.idxOf_le_length l)
end
end
end K10

set_option Elab.async false
set_option linter.all false
set_option maxRecDepth 100000
set_option maxHeartbeats 4000000
namespace K10
open PySem PySem.Spec PyProof.Rows L2 Rd Dt Dq Pk Ln En Sx Sy So Sr Lk Rq
local macro_rules | `(tactic| walk_at "rd") => `(tactic| try simp only [↓Lk.tLockE_, ↓Lk.tLock_, ↓Lk.tLc_keys, ↓Lk.tFor_keys, ↓Sy.tTupP_, ↓Sy.rTupP_, ↓Sy.rCatP_, ↓Sy.rSlP_, ↓Sy.rDictT_, ↓Sy.tDGet_, ↓Sy.tDGet1_, ↓Sy.tDIn_, ↓Sy.tDNotIn_, ↓Sy.tMeth_, ↓Sy.tMethKw_, ↓Sy.rSortedS_, ↓Sx.rIsT_, ↓En.tFor_enumT, ↓Sy.tFor_enumL, ↓Rv.tMakeKw_, ↓Prp.tProp_, ↓Lo.tBits_, ↓Lo.tJs_n, ↓Lo.tJs_c, ↓Lo.tFmt_, ↓Lo.gFld_, ↓Lo.tMake_, ↓Lo.rOwn_, ↓Rg.tFor_range3, ↓Rg.tLc_range3, ↓Rg.tLstC_, ↓Rg.tLc_rngV, ↓Le.rNeLE_, ↓Le.rEqLE_, ↓Ls.tLc_str, ↓Ls.sDPut_, ↓Rl.rReprL_, ↓Rl.tCallKS_, ↓Ob.tFld_, ↓Ob.sFld_, ↓tVar_, ↓tC_, ↓tM1, ↓tDNewK_, ↓tOp_, ↓tUn_, ↓rI_, ↓rI0_, ↓rU_, ↓eq_ii, ↓ne_ii, ↓eq_ss, ↓ne_ss, ↓eq_bb, ↓ne_bb, ↓tAndV_, ↓tOrV_, ↓tNotV_, ↓tIf_, ↓tTest_, ↓tB_, ↓tAnd_, ↓tOr_, ↓tNot_, ↓tChain_, ↓tNil_, ↓tCons_, ↓tTup_, ↓tLst_, ↓tCB_, ↓tCall_, ↓tSeq_, ↓tNext_, ↓tRet_, ↓tRetN_, ↓tDrop_, ↓tBreak_, ↓tNever_, ↓tIfS_, ↓tAsg_, ↓gName_, ↓gTup_, ↓gCons_, ↓gNil_, ↓gSub_, ↓tPar_, ↓tPar3_, ↓tSl_, ↓tNoPart_, ↓tPart_, ↓tBM_, ↓tFor_range1, ↓tFor_range2, ↓tFor_list, ↓tFor_tup, L2.start, List.headD_cons, List.headD_nil, List.tail_cons, List.map_cons, List.map_nil, List.length_cons, List.length_nil, List.replicate, List.append_nil, List.nil_append, List.cons_append, List.getElem?_cons_zero, List.getElem?_cons_succ, List.set_cons_zero, List.set_cons_succ, Option.some.injEq, V.int.injEq, V.bl.injEq, V.str.injEq, V.ref.injEq, exists_eq_left, exists_eq_left', exists_eq_right, exists_eq, exists_and_left, and_true, true_and, decide_eq_true_eq, Nat.reduceAdd, Nat.reduceSub, Nat.add_zero, Nat.zero_add, List.cons.injEq, Bool.not_eq_true', decide_eq_false_iff_not, eq_self, reduceCtorEq, Bool.false_eq_true, if_true, if_false, ite_true, ite_false, and_self, ↓tLc_range1, ↓tLc_range2, ↓tLc_list, ↓tLc_tup, ↓tYes_, wipe0, wipe1, ↓tCallS_, ↓rIxL_, ↓rIxT_, ↓rSlL_, ↓rCat_, ↓rSetL_, ↓rRep_, ↓rGcd_, ↓tCallK_, ↓gUnl_, ↓tRaise_, decide_true, decide_false, not_true_eq_false, not_false_eq_true, false_and, or_false, false_or, and_false, and_assoc, exists_const, forall_const, forall_eq'])


section
variable {P : Program} {w : World} {K : PySem.W.Frag} {mg : Str → Option Value} {base : Heap}
/-! ### no knot without need; the order; the text: plain -/
open Kp TL
section
variable {cs ns : List (Nat × Nat)} {R F : List Nat} {kn : Nat → Bool}
theorem seg {y : Nat} : ∀ {W : List Nat} {z : Nat}, Ch cs z W y → (∀ x ∈ W ++ [y], kn x = false) ∨ ∃ a V, kn a = true ∧ a ∈ W ++ [y] ∧ Ch cs a V y ∧ (∀ x ∈ (V ++ [y]).tail, kn x = false) ∧ V.length ≤ W.length
  | [], z, c => by
    cases c
    cases q : kn y with
    | true => exact .inr ⟨y, [], q, by simp, .nil y, fun x h => (by cases h), Nat.le_refl _⟩
    | false => exact .inl fun x hx => by rw [List.mem_singleton.mp hx]; exact q
  | x :: W, z, c => by
    obtain ⟨rfl, v, hv, c2⟩ := Kt.ch_cons c
    rcases seg c2 with h | ⟨a, V, h1, h2, h3, h4, h5⟩
    · cases q : kn x with
      | true => exact .inr ⟨x, x :: W, q, by simp, c, h, Nat.le_refl _⟩
      | false =>
        refine .inl fun u hu => ?_
        rcases List.mem_cons.mp hu with rfl | hu
        · exact q
        · exact h u hu
    · exact .inr ⟨a, V, h1, List.mem_cons_of_mem _ h2, h3, h4, Nat.le_succ_of_le h5⟩
/-- two chains to a knot, no knot between -/
theorem seg_uniq {a p y z : Nat} {V V' : List Nat} (kp : kn p = true) (c : Ch cs a (V ++ [y]) p) (c' : Ch cs a (V' ++ [z]) p) (t : ∀ x ∈ (V ++ [y]).tail, kn x = false) (t' : ∀ x ∈ (V' ++ [z]).tail, kn x = false) : y = z := by
  have one : ∀ {V V' : List Nat} {y z : Nat}, Ch cs a (V ++ [y]) p → Ch cs a (V' ++ [z]) p → (∀ x ∈ (V' ++ [z]).tail, kn x = false) → (V ++ [y]).length ≤ (V' ++ [z]).length → y = z := fun {V V' y z} c c' t' l => by
    obtain ⟨D, eD, cD⟩ := c.pre c' l
    cases D with
    | nil =>
      rw [List.append_nil] at eD
      have h1 : (V' ++ [z]).getLast? = (V ++ [y]).getLast? := by rw [eD]
      rw [List.getLast?_concat, List.getLast?_concat] at h1
      exact (Option.some.inj h1).symm
    | cons d D =>
      obtain rfl := cD.hd
      have m : d ∈ (V' ++ [z]).tail := by
        rw [eD]
        cases V with
        | nil => simp
        | cons v V => simp
      rw [t' d m] at kp
      cases kp
  rcases Nat.le_total (V ++ [y]).length (V' ++ [z]).length with l | l
  · exact one c c' t' l
  · exact (one c' c t l).symm
theorem two_of {p : Nat} : ∀ {R : List Nat}, R.Nodup → 1 < (R.filterMap (look cs)).count p → ∃ y z, y ∈ R ∧ z ∈ R ∧ y ≠ z ∧ look cs y = some p ∧ look cs z = some p := fun {R} nd h => by
  have e : ∀ R : List Nat, (R.filterMap (look cs)).count p = (R.filter fun x => decide (look cs x = some p)).length := fun R => by
    induction R with
    | nil => rfl
    | cons x R ih =>
      rw [List.filter_cons, List.filterMap_cons]
      cases q : look cs x with
      | none =>
        rw [if_neg (by simp)]
        exact ih
      | some v =>
        by_cases r : v = p
        · subst r
          rw [if_pos (by simp), List.count_cons_self, ih, List.length_cons]
        · rw [if_neg (by simpa using r), List.count_cons_of_ne r, ih]
  rw [e] at h
  have nf := nd.filter (fun x => decide (look cs x = some p))
  have mem : ∀ x ∈ R.filter (fun x => decide (look cs x = some p)), x ∈ R ∧ look cs x = some p := fun x hx => ⟨(List.mem_filter.mp hx).1, of_decide_eq_true (List.mem_filter.mp hx).2⟩
  match eL : R.filter (fun x => decide (look cs x = some p)), h, nf, mem with
  | [], h, _, _ => exact absurd h (by simp)
  | [_], h, _, _ => exact absurd h (by simp)
  | y :: z :: _, _, nf, mem =>
    have m1 := mem y (by simp)
    have m2 := mem z (by simp)
    refine ⟨y, z, m1.1, m2.1, fun e => ?_, m1.2, m2.2⟩
    rw [e] at nf
    exact (List.nodup_cons.mp nf).1 (by simp)
/-- the knot from which a reached cell is come to -/
theorem StK.from (S : StK cs ns R F) {y p : Nat} (hy : y ∈ R) (hp : look cs y = some p) (kp : knB cs ns R p = true) : ∃ a V, a ∈ F ∧ Ch cs a (V ++ [y]) p ∧ (∀ x ∈ (V ++ [y]).tail, knB cs ns R x = false) ∧ nxF cs ns R a = some p ∧ (look cs a).isSome = true := by
  rw [S.eR, mem_come] at hy
  obtain ⟨n, hn, m⟩ := hy
  obtain ⟨W, e, w⟩ := S.hw n hn
  rw [wayOf_eq w] at m
  have wl := few w.nd w.ch.key
  have w0 := w
  obtain ⟨A, B, rfl⟩ := List.append_of_mem (show y ∈ W from m)
  obtain ⟨mm, c1, c2⟩ := w.ch.cut
  obtain rfl := c2.hd
  have kh : knB cs ns R n.2 = true := S.kn (S.name hn)
  have hd : n.2 ∈ A ++ [y] := by
    cases A with
    | nil => cases c1; simp
    | cons x A => obtain rfl := c1.hd; simp
  rcases seg (kn := knB cs ns R) c1 with h | ⟨a, V, h1, h2, h3, h4, h5⟩
  · rw [h _ hd] at kh; cases kh
  have c := h3.snoc hp
  refine ⟨a, V, ?_, c, h4, ?_, ?_⟩
  · rw [S.eF, mem_kn]
    refine ⟨n, hn, ?_, h1⟩
    rw [wayOf_eq w0]
    have h2 : a ∈ A ++ [y] := h2
    show a ∈ (A ++ y :: B) ++ [e]
    rcases List.mem_append.mp h2 with h | h
    · exact List.mem_append_left _ (List.mem_append_left _ h)
    · rw [List.mem_singleton.mp h]
      exact List.mem_append_left _ (List.mem_append_right _ (List.mem_cons_self ..))
  · obtain ⟨x, rest, er⟩ : ∃ x rest, V ++ [y] = x :: rest := by
      cases V with
      | nil => exact ⟨_, _, rfl⟩
      | cons v V => exact ⟨_, _, rfl⟩
    have c' := c
    rw [er] at c' h4
    obtain ⟨rfl, z, hz, c3⟩ := Kt.ch_cons c'
    have lr : rest.length < cs.length + 1 := by
      have e1 := congrArg List.length er
      simp only [List.length_append, List.length_cons, List.length_nil] at e1 wl
      omega
    show (look cs x).bind _ = _
    rw [hz]
    show Kt.fkF cs (knB cs ns R) (cs.length + 1) z = some p
    rw [Kt.fk_head kp c3 lr, List.filter_append, List.filter_eq_nil_iff.mpr (fun x hx => by rw [h4 x hx]; decide)]
    simp [kp]
  · exact c.key a (by
      cases V with
      | nil => cases h3; simp
      | cons v V => obtain rfl := h3.hd; simp)
theorem StK.nn (S : StK cs ns R F) : ¬ Needless (ksF cs ns R F) := by
  rintro ⟨i, h⟩
  unfold needK at h
  cases e : (ksF cs ns R F)[i]? with
  | none => rw [e] at h; cases h
  | some k =>
    rw [e] at h
    have h : (decide (k.nm = "") && decide (k.sg = 62) && decide (intoK (ksF cs ns R F) i < 2)) = true := h
    rw [Bool.and_eq_true, Bool.and_eq_true, decide_eq_true_eq, decide_eq_true_eq, decide_eq_true_eq] at h
    obtain ⟨⟨h1, h2⟩, h3⟩ := h
    unfold ksF at e
    rw [List.getElem?_map] at e
    obtain ⟨p, hp, rfl⟩ := Option.map_eq_some_iff.mp e
    have pF := List.mem_of_getElem? hp
    have il := (List.getElem?_eq_some_iff.mp hp).1
    have ip : F.idxOf p = i := by
      have := S.nodup.idxOf_getElem i il
      rw [(List.getElem?_eq_some_iff.mp hp).2] at this
      exact this
    have n0 : nmN ns p = [] := strL_nil.mp h1
    have kp := S.kn pF
    have c2 : 1 < (R.filterMap (look cs)).count p := by
      unfold knB at kp
      rw [Bool.or_eq_true, Bool.or_eq_true, decide_eq_true_eq, decide_eq_true_eq] at kp
      rcases kp with q | q | q
      · have h2 : sgP cs p = 62 := h2
        unfold sgP at h2
        rw [if_pos q] at h2
        split at h2 <;> omega
      · obtain ⟨n, hn, rfl⟩ := List.mem_map.mp q
        have : n.1 ∈ nmN ns n.2 := List.mem_map_of_mem (List.mem_filter.mpr ⟨hn, decide_eq_true rfl⟩)
        rw [n0] at this
        cases this
      · exact q
    obtain ⟨y, z, hy, hz, ne, ly, lz⟩ := two_of S.nd c2
    obtain ⟨a, V, aF, ca, ta, na, ka⟩ := S.from hy ly (S.kn pF)
    obtain ⟨b, V', bF, cb, tb, nb, kb⟩ := S.from hz lz (S.kn pF)
    have ab : a ≠ b := fun e => by
      subst e
      exact ne (seg_uniq (S.kn pF) ca cb ta tb)
    have ld : ∀ x, nxF cs ns R x = some p → (look cs x).isSome = true → (knP cs ns F (nxF cs ns R) x).nx = some i := fun x hx kx => by
      show ldP cs F (nxF cs ns R) x = some i
      unfold ldP
      rw [if_neg (by rw [Option.isNone_iff_eq_none]; exact fun e => by rw [e] at kx; cases kx), hx]
      show some (F.idxOf p) = some i
      rw [ip]
    have : 2 ≤ intoK (ksF cs ns R F) i := by
      unfold intoK ksF
      rw [List.filter_map, List.length_map]
      have := nodup_le (l := [a, b]) (m := F.filter ((fun k : Kn => decide (k.nx = some i)) ∘ knP cs ns F (nxF cs ns R))) (by simp [ab]) fun x hx => by
        rcases List.mem_cons.mp hx with rfl | hx
        · exact List.mem_filter.mpr ⟨aF, decide_eq_true (ld _ na ka)⟩
        · rw [List.mem_singleton.mp hx]
          exact List.mem_filter.mpr ⟨bF, decide_eq_true (ld _ nb kb)⟩
      exact this
    omega
end
end
end K10

set_option Elab.async false
set_option linter.all false
set_option maxRecDepth 100000
set_option maxHeartbeats 4000000
namespace K10
open PySem PySem.Spec PyProof.Rows L2 Rd Dt Dq Pk Ln En Sx Sy So Sr Lk Rq
local macro_rules | `(tactic| walk_at "rd") => `(tactic| try simp only [↓Lk.tLockE_, ↓Lk.tLock_, ↓Lk.tLc_keys, ↓Lk.tFor_keys, ↓Sy.tTupP_, ↓Sy.rTupP_, ↓Sy.rCatP_, ↓Sy.rSlP_, ↓Sy.rDictT_, ↓Sy.tDGet_, ↓Sy.tDGet1_, ↓Sy.tDIn_, ↓Sy.tDNotIn_, ↓Sy.tMeth_, ↓Sy.tMethKw_, ↓Sy.rSortedS_, ↓Sx.rIsT_, ↓En.tFor_enumT, ↓Sy.tFor_enumL, ↓Rv.tMakeKw_, ↓Prp.tProp_, ↓Lo.tBits_, ↓Lo.tJs_n, ↓Lo.tJs_c, ↓Lo.tFmt_, ↓Lo.gFld_, ↓Lo.tMake_, ↓Lo.rOwn_, ↓Rg.tFor_range3, ↓Rg.tLc_range3, ↓Rg.tLstC_, ↓Rg.tLc_rngV, ↓Le.rNeLE_, ↓Le.rEqLE_, ↓Ls.tLc_str, ↓Ls.sDPut_, ↓Rl.rReprL_, ↓Rl.tCallKS_, ↓Ob.tFld_, ↓Ob.sFld_, ↓tVar_, ↓tC_, ↓tM1, ↓tDNewK_, ↓tOp_, ↓tUn_, ↓rI_, ↓rI0_, ↓rU_, ↓eq_ii, ↓ne_ii, ↓eq_ss, ↓ne_ss, ↓eq_bb, ↓ne_bb, ↓tAndV_, ↓tOrV_, ↓tNotV_, ↓tIf_, ↓tTest_, ↓tB_, ↓tAnd_, ↓tOr_, ↓tNot_, ↓tChain_, ↓tNil_, ↓tCons_, ↓tTup_, ↓tLst_, ↓tCB_, ↓tCall_, ↓tSeq_, ↓tNext_, ↓tRet_, ↓tRetN_, ↓tDrop_, ↓tBreak_, ↓tNever_, ↓tIfS_, ↓tAsg_, ↓gName_, ↓gTup_, ↓gCons_, ↓gNil_, ↓gSub_, ↓tPar_, ↓tPar3_, ↓tSl_, ↓tNoPart_, ↓tPart_, ↓tBM_, ↓tFor_range1, ↓tFor_range2, ↓tFor_list, ↓tFor_tup, L2.start, List.headD_cons, List.headD_nil, List.tail_cons, List.map_cons, List.map_nil, List.length_cons, List.length_nil, List.replicate, List.append_nil, List.nil_append, List.cons_append, List.getElem?_cons_zero, List.getElem?_cons_succ, List.set_cons_zero, List.set_cons_succ, Option.some.injEq, V.int.injEq, V.bl.injEq, V.str.injEq, V.ref.injEq, exists_eq_left, exists_eq_left', exists_eq_right, exists_eq, exists_and_left, and_true, true_and, decide_eq_true_eq, Nat.reduceAdd, Nat.reduceSub, Nat.add_zero, Nat.zero_add, List.cons.injEq, Bool.not_eq_true', decide_eq_false_iff_not, eq_self, reduceCtorEq, Bool.false_eq_true, if_true, if_false, ite_true, ite_false, and_self, ↓tLc_range1, ↓tLc_range2, ↓tLc_list, ↓tLc_tup, ↓tYes_, wipe0, wipe1, ↓tCallS_, ↓rIxL_, ↓rIxT_, ↓rSlL_, ↓rCat_, ↓rSetL_, ↓rRep_, ↓rGcd_, ↓tCallK_, ↓gUnl_, ↓tRaise_, decide_true, decide_false, not_true_eq_false, not_false_eq_true, false_and, or_false, false_or, and_false, and_assoc, exists_const, forall_const, forall_eq'])


section
variable {P : Program} {w : World} {K : PySem.W.Frag} {mg : Str → Option Value} {base : Heap}
/-! ### the order of the knots, the text: plain -/
open Kp TL
theorem fol_fuel {nx : Nat → Option Nat} {X : List Nat} (cl : ∀ x ∈ X, ∀ y, nx x = some y → y ∈ X) : ∀ (n m : Nat) (o : Option Nat) (S : List Nat), S.Nodup → (∀ x ∈ S, x ∈ X) → (∀ i, o = some i → i ∈ X) → X.length < n + S.length → X.length < m + S.length → Kt.folF nx n o S = Kt.folF nx m o S
  | 0, m, o, S, nd, hS, _, h, _ => by
    have := nodup_le nd hS
    omega
  | n + 1, 0, o, S, nd, hS, _, _, h => by
    have := nodup_le nd hS
    omega
  | n + 1, m + 1, none, S, _, _, _, _, _ => rfl
  | n + 1, m + 1, some i, S, nd, hS, ho, h1, h2 => by
    show (if i ∈ S then S else Kt.folF nx n (nx i) (S ++ [i])) = (if i ∈ S then S else Kt.folF nx m (nx i) (S ++ [i]))
    by_cases q : i ∈ S
    · rw [if_pos q, if_pos q]
    · rw [if_neg q, if_neg q]
      have iX := ho i rfl
      refine fol_fuel cl n m (nx i) (S ++ [i]) ?_ (fun x hx => (List.mem_append.mp hx).elim (hS x) fun e => by rw [List.mem_singleton.mp e]; exact iX) (fun j e => cl i iX j e) (by rw [List.length_append, List.length_singleton]; omega) (by rw [List.length_append, List.length_singleton]; omega)
      rw [List.nodup_append]
      exact ⟨nd, by simp, fun x hx y hy e => q (by rw [List.mem_singleton] at hy; rw [← hy, ← e]; exact hx)⟩
theorem fol_mem {nx : Nat → Option Nat} {X : List Nat} (cl : ∀ x ∈ X, ∀ y, nx x = some y → y ∈ X) : ∀ (n : Nat) (o : Option Nat) (S : List Nat), (∀ x ∈ S, x ∈ X) → (∀ i, o = some i → i ∈ X) → S.Nodup → (∀ x ∈ Kt.folF nx n o S, x ∈ X) ∧ (Kt.folF nx n o S).Nodup
  | 0, o, S, hS, _, nd => ⟨hS, nd⟩
  | n + 1, none, S, hS, _, nd => ⟨hS, nd⟩
  | n + 1, some i, S, hS, ho, nd => by
    show (∀ x ∈ (if i ∈ S then S else Kt.folF nx n (nx i) (S ++ [i])), x ∈ X) ∧ (if i ∈ S then S else Kt.folF nx n (nx i) (S ++ [i])).Nodup
    by_cases q : i ∈ S
    · rw [if_pos q]; exact ⟨hS, nd⟩
    · rw [if_neg q]
      have iX := ho i rfl
      refine fol_mem cl n (nx i) (S ++ [i]) (fun x hx => (List.mem_append.mp hx).elim (hS x) fun e => by rw [List.mem_singleton.mp e]; exact iX) (fun j e => cl i iX j e) ?_
      rw [List.nodup_append]
      exact ⟨nd, by simp, fun x hx y hy e => q (by rw [List.mem_singleton] at hy; rw [← hy, ← e]; exact hx)⟩
/-- the same, by indexes -/
theorem fol_map {nx nk : Nat → Option Nat} {f : Nat → Nat} {X : List Nat} (cl : ∀ x ∈ X, ∀ y, nx x = some y → y ∈ X) (inj : ∀ x ∈ X, ∀ y ∈ X, f x = f y → x = y) (h : ∀ x ∈ X, nk (f x) = (nx x).map f) : ∀ (n : Nat) (o : Option Nat) (S : List Nat), (∀ x ∈ S, x ∈ X) → (∀ i, o = some i → i ∈ X) →
    Kt.folF nk n (o.map f) (S.map f) = (Kt.folF nx n o S).map f
  | 0, o, S, _, _ => rfl
  | n + 1, none, S, _, _ => rfl
  | n + 1, some i, S, hS, ho => by
    show (if f i ∈ S.map f then S.map f else Kt.folF nk n (nk (f i)) (S.map f ++ [f i])) = (if i ∈ S then S else Kt.folF nx n (nx i) (S ++ [i])).map f
    have iX := ho i rfl
    by_cases q : i ∈ S
    · rw [if_pos q, if_pos (List.mem_map_of_mem q)]
    · rw [if_neg q, if_neg (fun z => by
        obtain ⟨x, hx, e⟩ := List.mem_map.mp z
        exact q (inj x (hS x hx) i iX e ▸ hx)), h i iX]
      have := fol_map cl inj h n (nx i) (S ++ [i]) (fun x hx => (List.mem_append.mp hx).elim (hS x) fun e => by rw [List.mem_singleton.mp e]; exact iX) (fun j e => cl i iX j e)
      rw [List.map_append] at this
      exact this
section
variable {cs ns : List (Nat × Nat)} {R F : List Nat}
theorem idx_at (nd : F.Nodup) {p : Nat} (h : p ∈ F) : F[F.idxOf p]? = some p := by
  have l := List.idxOf_lt_length_iff.mpr h
  rw [List.getElem?_eq_getElem l, List.getElem_idxOf]
theorem StK.clo (S : StK cs ns R F) : ∀ x ∈ F, ∀ y, nxF cs ns R x = some y → y ∈ F := fun x hx y e => by
  cases q : look cs x with
  | none =>
    unfold nxF Kt.nxt at e
    rw [q] at e
    cases e
  | some v =>
    obtain ⟨r, h1, h2⟩ := S.nx hx q
    rw [h1] at e
    cases e
    exact h2
theorem StK.nxk (S : StK cs ns R F) : ∀ x ∈ F, nxK (ksF cs ns R F) (F.idxOf x) = (nxF cs ns R x).map F.idxOf := fun x hx => by
  unfold nxK ksF
  rw [List.getElem?_map, idx_at S.nodup hx]
  show ldP cs F (nxF cs ns R) x = _
  unfold ldP
  cases q : look cs x with
  | none =>
    have : nxF cs ns R x = none := by
      unfold nxF Kt.nxt
      rw [q]
      rfl
    rw [this]
    rfl
  | some v =>
    obtain ⟨r, h1, h2⟩ := S.nx hx q
    rw [h1]
    rfl
theorem StK.pl (S : StK cs ns R F) {n : Nat × Nat} (hn : n ∈ ns) : plK (ksF cs ns R F) n.1 = F.idxOf n.2 := by
  have hF := S.name hn
  refine pl_of (k := knP cs ns F (nxF cs ns R) n.2) S.rt.nd ?_ ?_
  · unfold ksF
    rw [List.getElem?_map, idx_at S.nodup hF]
    rfl
  · show n.1 ∈ (strOfL (nmN ns n.2)).cps.toList
    unfold strOfL
    rw [List.toList_toArray]
    exact List.mem_map_of_mem (List.mem_filter.mpr ⟨hn, decide_eq_true rfl⟩)
theorem StK.srt (S : StK cs ns R F) : srtN (ltrs (ksF cs ns R F)) = ns.map (·.1) := by
  have asc : (ns.map (·.1)).Pairwise (· < ·) := List.pairwise_map.mpr S.okn.2.2.2
  exact (srtN_of S.perm.symm (asc.imp fun h => Nat.le_of_lt h)).symm
theorem way_fol2 {kn : Nat → Bool} {p e n m : Nat} {W T : List Nat} (w : Way cs p W e) (ke : kn e = true) (kp : kn p = true) (hn : W.length < n) (hm : W.length + 1 < m) (c : Kt.Clo (Kt.nxt cs kn n) T) :
    Kt.folF (Kt.nxt cs kn n) m (some p) T = Kt.addN T ((W ++ [e]).filter kn) := by
  have ef : (W ++ [e]).filter kn = W.filter kn ++ [e] := by
    rw [List.filter_append]
    simp [ke]
  have hd : ((W ++ [e]).filter kn).head? = some p := by
    cases W with
    | nil =>
      have := w.ch
      cases this
      simp [ke]
    | cons x W =>
      obtain rfl := w.ch.hd
      rw [List.cons_append, List.filter_cons, if_pos kp]
      rfl
  have nx := Kt.way_nx (n := n) ke w.ch hn
  have la : ∀ y, Kt.nxt cs kn n e = some y → y ∈ (W ++ [e]).filter kn := fun y h => Kt.way_last w ke hn h
  have := Kt.fol_add c (W.filter kn) [] m (by rw [← ef]; exact nx) (by rw [List.nil_append]; exact w.nd.filter _) (fun y hy => by
    have := la y hy
    rw [ef] at this
    rw [List.append_nil, List.append_assoc]
    exact List.mem_append_right _ this) (by
    have := List.length_filter_le kn W
    omega)
  rw [List.append_nil, ← ef, hd] at this
  exact this
theorem addN_clo {kn : Nat → Bool} {p e n : Nat} {W T : List Nat} (w : Way cs p W e) (ke : kn e = true) (hn : W.length < n) (c : Kt.Clo (Kt.nxt cs kn n) T) : Kt.Clo (Kt.nxt cs kn n) (Kt.addN T ((W ++ [e]).filter kn)) := by
  have ef : (W ++ [e]).filter kn = W.filter kn ++ [e] := by
    rw [List.filter_append]
    simp [ke]
  have nx := Kt.way_nx (n := n) ke w.ch hn
  have la : ∀ y, Kt.nxt cs kn n e = some y → y ∈ (W ++ [e]).filter kn := fun y h => Kt.way_last w ke hn h
  refine Kt.clo_add c fun x hx y hy => ?_
  have nx2 : ∀ {l : List Nat}, Kt.Nx (Kt.nxt cs kn n) l → ∀ x ∈ l, ∀ y, Kt.nxt cs kn n x = some y → (l.getLast? = some x) ∨ y ∈ l := fun {l} => by
    induction l with
    | nil => exact fun _ x hx => nomatch hx
    | cons a l ih =>
      intro h x hx y hy
      cases l with
      | nil =>
        rw [List.mem_singleton.mp hx]
        exact .inl rfl
      | cons b l =>
        rcases List.mem_cons.mp hx with rfl | hx
        · rw [h.1] at hy
          rw [← Option.some.inj hy]
          exact .inr (List.mem_cons_of_mem _ (List.mem_cons_self ..))
        · rcases ih h.2 x hx y hy with z | z
          · exact .inl (by rw [List.getLast?_cons_cons]; exact z)
          · exact .inr (List.mem_cons_of_mem _ z)
  rcases nx2 nx x hx y hy with z | z
  · rw [ef, List.getLast?_append] at z
    simp at z
    exact la y (z ▸ hy)
  · exact z
/-- knots by following from the names -/
theorem StK.fol (S : StK cs ns R F) {m : Nat} (hmm : cs.length + 1 < m) : ∀ (ms : List (Nat × Nat)) (T : List Nat), (∀ n ∈ ms, n ∈ ns) → Kt.Clo (nxF cs ns R) T →
    ms.foldl (fun S n => Kt.folF (nxF cs ns R) m (some n.2) S) T = ms.foldl (fun F n => Kt.addN F (((wayOf cs n.2).1 ++ [(wayOf cs n.2).2]).filter (knB cs ns R))) T
  | [], T, _, _ => rfl
  | n :: ms, T, hm, c => by
    have hn := hm n (List.mem_cons_self ..)
    obtain ⟨W, e, w⟩ := S.hw n hn
    have wl := few w.nd w.ch.key
    have ke : knB cs ns R e = true := kn_end hn w S.nd fun x hx => by
      rw [S.eR, mem_come]
      exact ⟨n, hn, by rw [wayOf_eq w]; exact hx⟩
    rw [List.foldl_cons, List.foldl_cons, way_fol2 w ke (S.kn (S.name hn)) (by omega) (by omega) c, wayOf_eq w]
    exact StK.fol S hmm ms _ (fun m h => hm m (List.mem_cons_of_mem _ h)) (addN_clo w ke (by omega) c)
theorem StK.ord (S : StK cs ns R F) : ordK (ksF cs ns R F) = List.range (ksF cs ns R F).length := by
  have X0 : F.length = (ksF cs ns R F).length := by unfold ksF; rw [List.length_map]
  have inj : ∀ x ∈ F, ∀ y ∈ F, F.idxOf x = F.idxOf y → x = y := fun x hx y hy e => by
    have h1 := idx_at S.nodup hx
    have h2 := idx_at S.nodup hy
    rw [e, h2] at h1
    exact (Option.some.inj h1).symm
  -- by indexes
  have go : ∀ (ms : List (Nat × Nat)) (T : List Nat), (∀ n ∈ ms, n ∈ ns) → (∀ x ∈ T, x ∈ F) → T.Nodup →
      (ms.map (·.1)).foldl (fun S c => Kt.folF (nxK (ksF cs ns R F)) ((ksF cs ns R F).length + 1) (some (plK (ksF cs ns R F) c)) S) (T.map F.idxOf) = (ms.foldl (fun S n => Kt.folF (nxF cs ns R) (F.length + cs.length + 3) (some n.2) S) T).map F.idxOf := fun ms => by
    induction ms with
    | nil => exact fun T _ _ _ => rfl
    | cons n ms ih =>
      intro T hm hT nT
      have hn := hm n (List.mem_cons_self ..)
      have ho : ∀ i, some n.2 = some i → i ∈ F := fun i e => by cases e; exact S.name hn
      rw [List.map_cons, List.foldl_cons, List.foldl_cons, S.pl hn]
      have e1 : Kt.folF (nxK (ksF cs ns R F)) ((ksF cs ns R F).length + 1) (some (F.idxOf n.2)) (T.map F.idxOf) = (Kt.folF (nxF cs ns R) (F.length + cs.length + 3) (some n.2) T).map F.idxOf := by
        rw [fol_fuel S.clo (F.length + cs.length + 3) ((ksF cs ns R F).length + 1) (some n.2) T nT hT ho (by omega) (by omega)]
        exact fol_map S.clo inj S.nxk _ (some n.2) T hT ho
      rw [e1]
      obtain ⟨m1, m2⟩ := fol_mem S.clo (F.length + cs.length + 3) (some n.2) T hT ho nT
      exact ih _ (fun m h => hm m (List.mem_cons_of_mem _ h)) m1 m2
  unfold ordK
  rw [S.srt]
  have := go ns [] (fun n h => h) (fun x h => nomatch h) List.nodup_nil
  rw [List.map_nil] at this
  rw [this, S.fol (by omega) ns [] (fun n h => h) (fun x h => nomatch h)]
  have eF : ns.foldl (fun F n => Kt.addN F (((wayOf cs n.2).1 ++ [(wayOf cs n.2).2]).filter (knB cs ns R))) [] = F := S.eF.symm
  rw [eF, ← X0]
  refine List.ext_getElem (by simp) fun i h1 h2 => ?_
  rw [List.getElem_map, List.getElem_range]
  exact S.nodup.idxOf_getElem i _
theorem StK.wd (S : StK cs ns R F) (p : Nat) : wdK (knP cs ns F (nxF cs ns R) p) = wdT cs ns F (nxF cs ns R) p := by
  refine str_eq ?_
  rw [wd_tl]
  have asc : (ns.map (·.1)).Pairwise (· < ·) := List.pairwise_map.mpr S.okn.2.2.2
  have sN : srtN (nmN ns p) = nmN ns p := by
    refine (srtN_of (.refl _) ?_).symm
    refine (asc.sublist ?_).imp fun h => Nat.le_of_lt h
    unfold nmN
    exact List.Sublist.map _ List.filter_sublist
  show TL.tl (wdK _) = _
  unfold wdK
  rw [tl_append, tl_append, List.append_assoc]
  congr 1
  · show TL.tl (if strOfL (nmN ns p) = "" then ("-" : Str) else strOfL (srtN (strOfL (nmN ns p)).cps.toList)) = _
    by_cases q : nmN ns p = []
    · rw [if_pos q, if_pos (strL_nil.mpr q)]
      decide +kernel
    · rw [if_neg q, if_neg (fun h => q (strL_nil.mp h))]
      unfold strOfL
      rw [List.toList_toArray, sN]
  · show [sgP cs p] ++ TL.tl (match ldP cs F (nxF cs ns R) p with | some n => Ln.numT n | none => ("" : Str)) = sgP cs p :: _
    unfold ldP rsB
    by_cases q : (look cs p).isNone = true
    · rw [if_pos q, if_pos q]
      have : TL.tl (Str.ofString "") = [] := by decide +kernel
      show [sgP cs p] ++ TL.tl (Str.ofString "") = _
      rw [this]
      rfl
    · rw [if_neg q, if_neg q]
      rfl
/-- the words of a store's plan are a shape -/
theorem StK.ok (S : StK cs ns R F) (l : F.length ≤ 99) : ShOk (Txt.join " " (F.map (wdT cs ns F (nxF cs ns R)))) (ksF cs ns R F) := by
  refine ⟨S.kin l, S.rt, S.nn, S.ord, ?_⟩
  unfold shTx ksF
  rw [List.map_map]
  congr 1
  exact List.map_congr_left fun p _ => S.wd p
theorem StK.wsok (S : StK cs ns R F) (l : F.length ≤ 99) (p : Nat) : (wdT cs ns F (nxF cs ns R) p).length ≤ 7 ∧ ∀ c ∈ (wdT cs ns F (nxF cs ns R) p).cps.toList, c < 128 := by
  obtain ⟨a1, a2, a3, a4⟩ := numT_at (n := F.idxOf ((nxF cs ns R p).getD 0)) (Nat.le_trans List.idxOf_le_length (by omega))
  have i99 : F.idxOf ((nxF cs ns R p).getD 0) ≤ 99 := Nat.le_trans List.idxOf_le_length l
  have ln2 : (Ln.numT (F.idxOf ((nxF cs ns R p).getD 0))).cps.toList.length ≤ 2 := by
    have : nl (F.idxOf ((nxF cs ns R p).getD 0)) ≤ nl 99 := nl_mono i99
    rw [← a1] at this
    have e : nl 99 = 2 := by decide
    rw [Array.length_toList]
    exact e ▸ this
  have nm4 : (nmN ns p).length ≤ 4 := by
    unfold nmN
    rw [List.length_map]
    exact Nat.le_trans (List.length_filter_le _ _) S.okn.2.1
  have e := wd_tl (cs := cs) (ns := ns) F (nxF cs ns R) p
  constructor
  · have e2 := congrArg List.length e
    rw [Array.length_toList, List.length_append, List.length_cons] at e2
    have h1 : (if nmN ns p = [] then [45] else nmN ns p).length ≤ 4 := by
      split
      · decide
      · exact nm4
    have h2 : (rsB cs F (nxF cs ns R) p).length ≤ 2 := by
      unfold rsB
      split
      · exact Nat.zero_le _
      · exact ln2
    show (wdT cs ns F (nxF cs ns R) p).cps.size ≤ 7
    omega
  · intro c hc
    rw [e] at hc
    rcases List.mem_append.mp hc with h | h
    · split at h
      · rw [List.mem_singleton.mp h]; decide
      · have := nm_lo S.okn p c h
        omega
    · rcases List.mem_cons.mp h with h | h
      · rw [h]
        have := sgP_in (cs := cs) p
        simp only [List.mem_cons, List.not_mem_nil, or_false] at this
        omega
      · unfold rsB at h
        split at h
        · cases h
        · have := a3 c h
          omega
theorem StK.sok (S : StK cs ns R F) (l : F.length ≤ 99) : SOk (Txt.join " " (F.map (wdT cs ns F (nxF cs ns R)))) := by
  have ws : ∀ w ∈ F.map (wdT cs ns F (nxF cs ns R)), w.length ≤ 7 ∧ ∀ c ∈ w.cps.toList, c < 128 := fun w hw => by
    obtain ⟨p, _, rfl⟩ := List.mem_map.mp hw
    exact S.wsok l p
  constructor
  · have jl := join_len (y := " ") (ws := F.map (wdT cs ns F (nxF cs ns R))) (m := 7) fun w hw => (ws w hw).1
    have s1b : (" ":Str).length = 1 := by decide
    rw [List.length_map, s1b] at jl
    omega
  · intro c hc
    have hc : c ∈ TL.tl (Txt.join " " (F.map (wdT cs ns F (nxF cs ns R)))) := hc
    rw [join_eq, tl_join] at hc
    rcases joinL_mem hc with h | ⟨q, hq, hc⟩
    · have e : TL.tl (Str.ofString " ") = [32] := by decide +kernel
      have h : c ∈ TL.tl (Str.ofString " ") := h
      rw [e] at h
      rw [List.mem_singleton.mp h]
      decide
    · obtain ⟨w, hw, rfl⟩ := List.mem_map.mp hq
      exact (ws w hw).2 c hc
end
end
end K10

set_option Elab.async false
set_option linter.all false
set_option maxRecDepth 100000
set_option maxHeartbeats 2000000
/-! [.. for x in a list for c in a text]: by invariants -/
namespace Lc3
open PySem PySem.Spec PyProof.Rows L2
section
variable {K : PySem.W.Frag} {a : Addr} {xs : List V} {g g1 : TG} {ts te : TE} {vs vs1 : List Nat} {σ : L2.St} {H1 : Hp} {Q : VK}
/-- the inner loop over z, from which Nx is reached -/
def In2 (z : Str) (g1 : TG) (te : TE) (vs1 : List Nat) (σ2 : L2.St) (D : Addr) (H4 : Hp) (Nx : Hp → Prop) : Prop :=
  ∃ W1 : Nat → Nat → Hp → Prop, (∃ m, W1 0 m H4) ∧ ∀ j k H, W1 j k H →
      ((Its z).stop j H ∧ Nx H) ∨ ((Its z).go j H ∧ ∃ Nx1 : Hp → Prop, (∀ H', Nx1 H' → ∃ k', k' < k ∧ W1 (j + 1) k' H') ∧ ∀ x H', (Its z).yld j H x H' → g1 x (wipe σ2 vs1) H' fun σ3 H5 => wipe σ3 vs1 = wipe σ2 vs1 ∧ tYes σ3 H5 fun b H6 =>
        if b = true then te σ3 H6 fun y H7 => ∃ acc, H7 D = some (.lst acc) ∧ acc.length < sizeLine ∧ Nx1 (upd H7 D (.lst (acc ++ [y]))) else Nx1 H6)
theorem in2 {z : Str} {σ2 : L2.St} {D : Addr} {H4 : Hp} {Nx : Hp → Prop} (R : Nat → Hp → Prop) (h0 : R 0 H4)
    (hs : ∀ j c H, z.cps.toList[j]? = some c → R j H → g1 (.str ⟨#[c]⟩) (wipe σ2 vs1) H fun σ3 H5 => wipe σ3 vs1 = wipe σ2 vs1 ∧ te σ3 H5 fun y H7 => ∃ acc, H7 D = some (.lst acc) ∧ acc.length < sizeLine ∧ R (j + 1) (upd H7 D (.lst (acc ++ [y]))))
    (hd : ∀ H, R z.cps.toList.length H → Nx H) : In2 z g1 te vs1 σ2 D H4 Nx := by
  refine ⟨fun i m H => m = z.cps.size - i ∧ i ≤ z.cps.size ∧ R i H, ⟨z.cps.size, by simp, Nat.zero_le _, h0⟩, ?_⟩
  rintro i m H ⟨rfl, hi, p⟩
  by_cases hlt : i < z.cps.size
  · refine .inr ⟨hlt, R (i + 1), fun H' p' => ⟨z.cps.size - (i + 1), by omega, rfl, hlt, p'⟩, fun x H' y => ?_⟩
    obtain ⟨rfl, c, hc, rfl⟩ := y
    exact hs i c _ (by rw [Array.getElem?_toList]; exact hc) p
  · have e : i = z.cps.size := by omega
    subst e
    exact .inl ⟨Nat.le_refl _, hd H (by rw [Array.length_toList]; exact p)⟩
theorem lc2_ls (P : Addr → Nat → Hp → Prop)
    (h : ∀ D, H1 D = none → P D 0 (upd H1 D (.lst [])) ∧ (∀ i H, i ≤ xs.length → P D i H → SqL K H a xs) ∧
      (∀ i x H, xs[i]? = some x → P D i H → g x (wipe σ vs) H fun σ2 H2 => wipe σ2 vs = wipe σ vs ∧ ts σ2 H2 fun v H4 => ∃ z, v = .str z ∧ In2 z g1 te vs1 σ2 D H4 (P D (i + 1))) ∧ (∀ H, P D xs.length H → Q (.ref D) H)) :
    tLc2 (fun _ H R => R (Itl K a) H) g tYes (iStr ts) g1 tYes te vs vs1 σ H1 Q := by
  intro D hD
  obtain ⟨h0, hG, hs, hd⟩ := h D hD
  have w := walk_list (K := K) (a := a) (xs := xs)
  refine ⟨fun i m H => m = xs.length - i ∧ i ≤ xs.length ∧ P D i H, ⟨xs.length, by simp, Nat.zero_le _, h0⟩, ?_⟩
  rintro i m H ⟨rfl, hi, p⟩
  have q := hG i H hi p
  by_cases hlt : i < xs.length
  · refine .inr ⟨w.goes i H hlt q, P D (i + 1), fun H' p' => ⟨xs.length - (i + 1), by omega, rfl, hlt, p'⟩, fun x H' y => ?_⟩
    obtain ⟨rfl, hx⟩ := w.yields i H x H' hlt q y
    exact hs i x _ hx p
  · have e : i = xs.length := by omega
    subst e
    exact .inl ⟨w.stops H q, hd H p⟩
theorem tLc2_list {tl : TE} : tLc2 (iList K tl) g tYes (iStr ts) g1 tYes te vs vs1 σ H1 Q = tl σ H1 fun v H => ∃ a, v = .ref a ∧ (∃ xs, SqL K H a xs) ∧ tLc2 (fun _ H R => R (Itl K a) H) g tYes (iStr ts) g1 tYes te vs vs1 σ H Q := rfl
end
end Lc3

set_option Elab.async false
set_option linter.all false
set_option maxRecDepth 100000
set_option maxHeartbeats 4000000
namespace K10
open PySem PySem.Spec PyProof.Rows L2 Rd Dt Dq Pk Ln En Sx Sy So Sr Lk Rq
local macro_rules | `(tactic| walk_at "rd") => `(tactic| try simp only [↓Lk.tLockE_, ↓Lk.tLock_, ↓Lk.tLc_keys, ↓Lk.tFor_keys, ↓Sy.tTupP_, ↓Sy.rTupP_, ↓Sy.rCatP_, ↓Sy.rSlP_, ↓Sy.rDictT_, ↓Sy.tDGet_, ↓Sy.tDGet1_, ↓Sy.tDIn_, ↓Sy.tDNotIn_, ↓Sy.tMeth_, ↓Sy.tMethKw_, ↓Sy.rSortedS_, ↓Sx.rIsT_, ↓En.tFor_enumT, ↓Sy.tFor_enumL, ↓Rv.tMakeKw_, ↓Prp.tProp_, ↓Lo.tBits_, ↓Lo.tJs_n, ↓Lo.tJs_c, ↓Lo.tFmt_, ↓Lo.gFld_, ↓Lo.tMake_, ↓Lo.rOwn_, ↓Rg.tFor_range3, ↓Rg.tLc_range3, ↓Rg.tLstC_, ↓Rg.tLc_rngV, ↓Le.rNeLE_, ↓Le.rEqLE_, ↓Ls.tLc_str, ↓Ls.sDPut_, ↓Rl.rReprL_, ↓Rl.tCallKS_, ↓Ob.tFld_, ↓Ob.sFld_, ↓tVar_, ↓tC_, ↓tM1, ↓tDNewK_, ↓tOp_, ↓tUn_, ↓rI_, ↓rI0_, ↓rU_, ↓eq_ii, ↓ne_ii, ↓eq_ss, ↓ne_ss, ↓eq_bb, ↓ne_bb, ↓tAndV_, ↓tOrV_, ↓tNotV_, ↓tIf_, ↓tTest_, ↓tB_, ↓tAnd_, ↓tOr_, ↓tNot_, ↓tChain_, ↓tNil_, ↓tCons_, ↓tTup_, ↓tLst_, ↓tCB_, ↓tCall_, ↓tSeq_, ↓tNext_, ↓tRet_, ↓tRetN_, ↓tDrop_, ↓tBreak_, ↓tNever_, ↓tIfS_, ↓tAsg_, ↓gName_, ↓gTup_, ↓gCons_, ↓gNil_, ↓gSub_, ↓tPar_, ↓tPar3_, ↓tSl_, ↓tNoPart_, ↓tPart_, ↓tBM_, ↓tFor_range1, ↓tFor_range2, ↓tFor_list, ↓tFor_tup, L2.start, List.headD_cons, List.headD_nil, List.tail_cons, List.map_cons, List.map_nil, List.length_cons, List.length_nil, List.replicate, List.append_nil, List.nil_append, List.cons_append, List.getElem?_cons_zero, List.getElem?_cons_succ, List.set_cons_zero, List.set_cons_succ, Option.some.injEq, V.int.injEq, V.bl.injEq, V.str.injEq, V.ref.injEq, exists_eq_left, exists_eq_left', exists_eq_right, exists_eq, exists_and_left, and_true, true_and, decide_eq_true_eq, Nat.reduceAdd, Nat.reduceSub, Nat.add_zero, Nat.zero_add, List.cons.injEq, Bool.not_eq_true', decide_eq_false_iff_not, eq_self, reduceCtorEq, Bool.false_eq_true, if_true, if_false, ite_true, ite_false, and_self, ↓tLc_range1, ↓tLc_range2, ↓tLc_list, ↓tLc_tup, ↓tYes_, wipe0, wipe1, ↓tCallS_, ↓rIxL_, ↓rIxT_, ↓rSlL_, ↓rCat_, ↓rSetL_, ↓rRep_, ↓rGcd_, ↓tCallK_, ↓gUnl_, ↓tRaise_, decide_true, decide_false, not_true_eq_false, not_false_eq_true, false_and, or_false, false_or, and_false, and_assoc, exists_const, forall_const, forall_eq'])


section
variable {P : Program} {w : World} {K : PySem.W.Frag} {mg : Str → Option Value} {base : Heap}
/-! ### Plan -/
open Kp
def pf (s : Str) (a : Addr) (l : Int) (lt : Str) : List (Str × V) := [("shape", .str s), ("lengths", .ref a), ("lost", .int l), ("letters", .str lt)]
def cellsK (ks : List Kn) : Nat := (ks.filter fun k => decide (k.sg = 62)).length
/-- the parts of a plan -/
structure PlOk (s : Str) (ks : List Kn) (ls : List Nat) (l : Nat) : Prop where
  sok : SOk s
  sh : ShOk s ks
  len : ls.length = cellsK ks
  b : ∀ x ∈ ls, 1 ≤ x ∧ x ≤ far
  lb : l ≤ far
def PlA (K : PySem.W.Frag) (C : Addr) (H : Hp) (r : Addr) (s : Str) (ks : List Kn) (ls : List Nat) (l : Nat) : Prop := ∃ (dx a : Addr), H r = some (.ins C dx (pf s a l (strOfL (srtN (ltrs ks))))) ∧ SqT K H a (ls.map fun l => V.int (l : Nat)) ∧ PlOk s ks ls l
structure PlB (K : PySem.W.Frag) (C : Addr) : Prop where
  cl : L2.Cls K C
  nS : NoAttr K C "shape"
  nL : NoAttr K C "lengths"
  nO : NoAttr K C "lost"
  nT : NoAttr K C "letters"
structure PlM (K : PySem.W.Frag) (mg : Str → Option Value) (C f : Addr) : Prop where
  own : Lo.OwnC K C
  mkr : Mk K C f
  g : mg "Plan" = some (.ref C)
def spPI (K : PySem.W.Frag) (C : Addr) : Sp := fun vs H Q _ => ∃ (r dx a : Addr) (s : Str) (ks : List Kn) (ls : List Nat) (l : Nat), vs = [.ref r, .str s, .ref a, .int (l : Nat)] ∧ H r = some (.ins C dx []) ∧ SqT K H a (ls.map fun l => V.int (l : Nat)) ∧ PlOk s ks ls l ∧
  ∀ H', But r H H' → PlA K C H' r s ks ls l → Q .non H'
theorem sqt_ins {H H' : Hp} {r a C dx : Addr} {fs : List (Str × V)} {xs : List V} (b : But r H H') (e : H r = some (.ins C dx fs)) (h : SqT K H a xs) : SqT K H' a xs := by
  rcases h with (h | ⟨o, h⟩) | h
  · exact .inl (.inl (b _ _ (fun q => by rw [q, e] at h; cases h) h))
  · exact .inl (.inr ⟨o, b _ _ (fun q => by rw [q, e] at h; cases h) h⟩)
  · exact .inr h
theorem knl_ins {H H' : Hp} {r C dx : Addr} {fs : List (Str × V)} {as : List Addr} {ks : List Kn} (b : But r H H') (e : H r = some (.ins C dx fs)) (h : KnL H as ks) : KnL H' as ks :=
  h.keep fun A hA o eo => b _ _ (fun q => by
    subst q
    obtain ⟨i, hi⟩ := List.mem_iff_getElem?.mp hA
    have il := (List.getElem?_eq_some_iff.mp hi).1
    have := h.2 i A _ hi (List.getElem?_eq_getElem (by rw [← h.1]; exact il))
    rw [e] at this
    cases this) eo
theorem sc_pi : FnScope ["self", "shape", "lengths", "lost", "knots", "many", "knot", "length", "letter"] ["self", "shape", "lengths", "lost"] (defScope (inClass (top 24) 0)) := ⟨rfl, rfl, rfl, by decide +kernel, rfl, by decide +kernel, by decide +kernel⟩
theorem ok_pi {f C : Addr} {fd : FuncData} {q : Str} (T : Tx mg) (W : PlB K C) (F : FM K "__init__" q (inClass (top 24) 0) f fd) {f1 f2 : Addr} {fd1 fd2 : FuncData} (C1 : Cal P w K mg base CX0 2 "shape_knots" ["value"] spSh f1 fd1) (C2 : Cal P w K mg base CX0 2 "is_between" ["value", "low", "high"] spBetween f2 fd2) : FnOk P w K mg base CX0 3 f fd ["self", "shape", "lengths", "lost"] (spPI K C) := by
  obtain ⟨gshape_knots, kshape_knots, bshape_knots, Fshape_knots⟩ := C1
  obtain ⟨gis_between, kis_between, bis_between, Fis_between⟩ := C2
  refine F.ok sc_pi (fun vs H Q E h => ?_) (fun cdv A outer s H vs Q E hr h => ?_)
  · obtain ⟨_, _, _, _, _, _, _, rfl, _⟩ := h
    rfl
  · obtain ⟨r, dx, a, z, ks, ls, l, rfl, hr0, ha, ok, k⟩ := h
    have nd := sc_pi.nd
    have zl : (1000000 : Nat) ≤ sizeLine := line_big
    obtain ⟨tfr, hFAR⟩ := T.far
    refine ⟨_, (pss_cons (ps_set (i := 4) nd rfl (Or.inl rfl) (pe_call Fshape_knots (hr.mono (by omega)) rfl gshape_knots kshape_knots bshape_knots .nil pass0 (pa_cons (pv 1) pa_nil)))
        (pss_cons (ps_if (pt_cmpR op_isN (pv 4) pe_non (nomark _)) (pss_one ps_never) pss_nil)
        (pss_cons (ps_set (i := 5) nd rfl (Or.inl rfl) (pe_callB (Ck.call_lenK (K := K) rfl) (by rfl) T.b_len PySem.boot_len (pa_cons (pe_lc (own := [("knot", 6)]) rfl nd (pi_list (pv 4)) (blkOk_by (N := ["self", "shape", "lengths", "lost", "knots", "many", "knot", "length", "letter"]) (sc := defScope (inClass (top 24) 0)) (by decide +kernel)) (fun _ _ _ _ _ => (pg_name (i := 6) nd rfl (Or.inl rfl))) (fun _ _ _ _ _ => (pts_one (pt_cmpR op_eq (pe_ix (r := rIxL K) ix_list (pv 6) pe_int (fun _ _ => rfl)) pe_str (nomark _)))) (fun _ _ _ _ _ => (pv 6))) pa_nil)))
        (pss_cons (ps_if (PW.pt (pw_or (pt_not (pt_val (pe_callB (Sx.call_isT (K := K) rfl) (by rfl) T.b_isinstance (by decide +kernel) (pa_cons (pv 2) (pa_cons (pe_bltn (v := .ty "tuple") rfl T.b_tuple (by decide +kernel) rfl) pa_nil))))) (pw_or1 (pt_cmpR op_ne (pe_callB (Ck.call_lenK (K := K) rfl) (by rfl) T.b_len PySem.boot_len (pa_cons (pv 2) pa_nil)) (pv 5) (nomark _))))) (pss_one ps_never) pss_nil)
        (pss_cons (ps_if (pt_not (pt_val (pe_callB (cr_all rfl) (by rfl) T.b_all (by decide +kernel) (pa_cons (pe_lc (own := [("length", 7)]) rfl nd (pi_tup (pv 2)) (blkOk_by (N := ["self", "shape", "lengths", "lost", "knots", "many", "knot", "length", "letter"]) (sc := defScope (inClass (top 24) 0)) (by decide +kernel)) (fun _ _ _ _ _ => (pg_name (i := 7) nd rfl (Or.inl rfl))) (fun _ _ _ _ _ => pts_nil) (fun _ _ _ _ _ => (pe_call Fis_between (hr.mono (by omega)) rfl gis_between kis_between bis_between .nil pass0 (pa_cons (pv 7) (pa_cons pe_int (pa_cons (pe_glob (v := .int 1000000000000000000000000000000) rfl hFAR ⟨_, rfl⟩) pa_nil)))))) pa_nil)))) (pss_one ps_never) pss_nil)
        (pss_cons (ps_if (pt_not (pt_val (pe_call Fis_between (hr.mono (by omega)) rfl gis_between kis_between bis_between .nil pass0 (pa_cons (pv 3) (pa_cons pe_int (pa_cons (pe_glob (v := .int 1000000000000000000000000000000) rfl hFAR ⟨_, rfl⟩) pa_nil)))))) (pss_one ps_never) pss_nil)
        (pss_cons (ps_fld (pv 0) (pv 1) rfl)
        (pss_cons (ps_fld (pv 0) (pv 2) rfl)
        (pss_cons (ps_fld (pv 0) (pv 3) rfl)
        (pss_one (ps_fld (pv 0) (pe_join pe_str (pe_callB cr_sortedS (by rfl) T.b_sorted (by decide +kernel) (pa_cons (pe_lc2 (own := [("knot", 6), ("letter", 8)]) (vs1 := [8]) rfl nd (pi_list (pv 4)) (blkOk_by (N := ["self", "shape", "lengths", "lost", "knots", "many", "knot", "length", "letter"]) (sc := defScope (inClass (top 24) 0)) (by decide +kernel)) (by decide) (fun _ _ _ _ _ => (pg_name (i := 6) nd rfl (Or.inl rfl))) (fun _ _ _ _ _ => pts_nil) (fun _ _ _ _ _ => (pi_str (pe_ix (r := rIxL K) ix_list (pv 6) pe_int (fun _ _ => rfl)))) (fun _ _ _ _ _ => (pg_name (i := 8) nd rfl (Or.inl rfl))) (fun _ _ _ _ _ => pts_nil) (fun _ _ _ _ _ => (pv 8))) pa_nil))) rfl))))))))))), ?_⟩
    refine sq fun U hU => ?_
    walk_at "rd"
    refine ⟨z, rfl, ok.sok, fun h => (by rw [shF_of ok.sh] at h; cases h), fun kr ks' H1 sh' s1 kr0 hk => hU _ _ ?_⟩
    clear hU
    obtain rfl : ks = ks' := by
      have := ok.sh.kin
      rw [sh'.kin] at this
      exact (Option.some.inj this).symm
    clear sh'
    obtain ⟨kl, ll4001, wf⟩ := kin_facts ok.sok ok.sh.kin
    have rt := ok.sh.rt
    obtain ⟨as, hka, kn⟩ := hk
    refine sq fun U hU => ?_
    walk_at "rd"
    refine hU _ _ ?_
    clear hU
    refine sq fun U hU => ?_
    walk_at "rd"
    refine ⟨⟨_, SqL.of hka⟩, lc_l (xs := as.map V.ref) (fun D' j H' => Same H1 H' ∧ ∃ xs : List V, H' D' = some (.lst xs) ∧ xs.length = ((ks.take j).filter fun k => decide (k.sg = 62)).length) fun D' hD' => ⟨⟨same_new hD', [], upd_same, rfl⟩, fun j H' _ hP => SqL.of (hP.1 _ _ hka), ?_, ?_⟩⟩
    · rintro j x H9 hx ⟨s9, xs, hD9, xl⟩
      obtain ⟨A, hA, rfl⟩ := map_at hx
      have il := (List.getElem?_eq_some_iff.mp hA).1
      obtain ⟨kk, hk⟩ : ∃ kk, ks[j]? = some kk := ⟨_, List.getElem?_eq_getElem (by rw [← kn.1]; exact il)⟩
      have eA : SqL K H9 A (knV kk) := SqL.of (s9 _ _ (kn.2 j A kk hA hk))
      have et : (ks.take (j + 1)).filter (fun k => decide (k.sg = 62)) = (ks.take j).filter (fun k => decide (k.sg = 62)) ++ (if kk.sg = 62 then [kk] else []) := by
        rw [List.take_succ, hk, List.filter_append]
        congr 1
        show [kk].filter _ = _
        rw [List.filter_cons, List.filter_nil]
        by_cases q : kk.sg = 62
        · rw [if_pos (decide_eq_true q), if_pos q]
        · rw [if_neg (by rw [decide_eq_false q]; decide), if_neg q]
      have esg : ((⟨#[kk.sg]⟩ : Str) = Str.ofString ">") ↔ kk.sg = 62 := by
        have e : (Str.ofString ">") = ⟨#[62]⟩ := by decide +kernel
        rw [e]
        exact ⟨fun h => by injection h with h; injection h with h; injection h, fun h => by rw [h]⟩
      unfold Lturn
      walk_at "rd"
      refine ⟨_, eA, _, rfl, ?_⟩
      simp only [eq_ss]
      refine ⟨_, rfl, ?_⟩
      by_cases q : kk.sg = 62
      · rw [if_pos (decide_eq_true (esg.mpr q))]
        refine ⟨_, hD9, ?_, fun x o e => by rw [upd_ne (ne_of_none e hD')]; exact s9 _ _ e, _, upd_same, by rw [List.length_append, xl, et, if_pos q, List.length_append]; rfl⟩
        rw [xl]
        have h1 := List.length_filter_le (fun k : Kn => decide (k.sg = 62)) (ks.take j)
        have h2 := List.length_take_le' j ks
        omega
      · rw [if_neg (by rw [decide_eq_false (fun h => q (esg.mp h))]; decide)]
        exact ⟨s9, xs, hD9, by rw [xl, et, if_neg q, List.append_nil]⟩
    rintro H9 ⟨s9, xs, hD9, xl⟩
    rw [List.length_map, kn.1, List.take_length] at xl
    have xl : xs.length = cellsK ks := xl
    refine ⟨D', rfl, xs, .inl (SqL.of hD9), hU _ _ ?_⟩
    clear hU
    have s09 := s1.trans s9
    have ha9 := sqt_up s09 ha
    have hka9 := s9 _ _ hka
    have kn9 := kn.up s9
    rw [xl]
    clear hD9 xl
    refine sq fun U hU => ?_
    walk_at "rd"
    refine ⟨_, ha9, _, .inr ha9, ?_⟩
    rw [List.length_map, if_neg (fun h => h (by rw [ok.len]))]
    refine hU _ _ ?_
    clear hU
    refine sq fun U hU => ?_
    walk_at "rd"
    refine ⟨⟨_, ha9⟩, lc_t (xs := ls.map fun l => V.int (l : Nat)) (fun D' j H' => Same H9 H' ∧ H' D' = some (.lst (((List.range j).map fun _ => true).map V.bl))) fun D' hD' => ⟨⟨same_new hD', upd_same⟩, fun j H' _ hP => sqt_up hP.1 ha9, ?_, ?_⟩⟩
    · rintro j x H10 hx ⟨s10, hD10⟩
      rw [List.getElem?_map] at hx
      cases hj : ls[j]? with
      | none => rw [hj] at hx; cases hx
      | some y =>
        rw [hj] at hx
        cases hx
        have jl := (List.getElem?_eq_some_iff.mp hj).1
        obtain ⟨b1, b2⟩ := ok.b y (List.mem_of_getElem? hj)
        have lf : ls.length ≤ 4001 := by
          rw [ok.len]
          exact Nat.le_trans (List.length_filter_le _ _) kl
        have fe : (far : Int) = 1000000000000000000000000000000 := by decide
        unfold Lturn
        walk_at "rd"
        refine ⟨_, _, _, rfl, _, hD10, ?_, fun x o e => by rw [upd_ne (ne_of_none e hD')]; exact s10 _ _ e, ?_⟩
        · rw [List.length_map, List.length_map, List.length_range]
          omega
        · rw [upd_same, decide_eq_true (by omega), decide_eq_true (by omega), List.range_succ, List.map_append, List.map_append]
          rfl
    rintro H10 ⟨s10, hD10⟩
    rw [List.length_map] at hD10
    refine ⟨D', _, rfl, SqL.of hD10, _, rfl, ?_⟩
    rw [if_neg (by
      rw [show (((List.range ls.length).map fun _ => true).all id) = true from by
        rw [List.all_eq_true]
        intro x hx
        obtain ⟨_, _, rfl⟩ := List.mem_map.mp hx
        rfl]
      decide)]
    clear hD10
    have s010 := s09.trans s10
    have ha10 := sqt_up s10 ha9
    have hka10 := s10 _ _ hka9
    have kn10 := kn9.up s10
    have hr10 := s010 _ _ hr0
    refine hU _ _ ?_
    clear hU
    refine sq fun U hU => ?_
    walk_at "rd"
    have lb := ok.lb
    have fe : (far : Int) = 1000000000000000000000000000000 := by decide
    refine ⟨_, _, _, rfl, _, rfl, ?_⟩
    rw [if_neg (by rw [decide_eq_true (by omega), decide_eq_true (by omega)]; decide)]
    refine hU _ _ ?_
    clear hU
    refine sq fun U hU => ?_
    walk_at "rd"
    refine ⟨C, dx, [], ⟨hr10, W.cl, W.nS, by decide⟩, hU _ _ ?_⟩
    clear hU
    have b2 : But r H10 (upd H10 r (.ins C dx (putF (Str.ofString "shape") (.str z) []))) := But.put
    have hr2 : upd H10 r (.ins C dx (putF (Str.ofString "shape") (.str z) [])) r = some (.ins C dx [("shape", .str z)]) := upd_same
    generalize upd H10 r (.ins C dx (putF (Str.ofString "shape") (.str z) [])) = H2 at b2 hr2 ⊢
    have ha2 := sqt_ins b2 hr10 ha10
    have kn2 := knl_ins b2 hr10 kn10
    have nkr : kr ≠ r := fun q => by rw [q, hr0] at kr0; cases kr0
    have hka2 := b2 _ _ nkr hka10
    refine sq fun U hU => ?_
    walk_at "rd"
    refine ⟨C, dx, _, ⟨hr2, W.cl, W.nL, show 1 < 1000 by decide⟩, hU _ _ ?_⟩
    clear hU
    have b3 : But r H2 (upd H2 r (.ins C dx (putF (Str.ofString "lengths") (.ref a) [("shape", .str z)]))) := But.put
    have hr3 : upd H2 r (.ins C dx (putF (Str.ofString "lengths") (.ref a) [("shape", .str z)])) r = some (.ins C dx [("shape", .str z), ("lengths", .ref a)]) := upd_same
    generalize upd H2 r (.ins C dx (putF (Str.ofString "lengths") (.ref a) [("shape", .str z)])) = H3 at b3 hr3 ⊢
    have ha3 := sqt_ins b3 hr2 ha2
    have kn3 := knl_ins b3 hr2 kn2
    have hka3 := b3 _ _ nkr hka2
    refine sq fun U hU => ?_
    walk_at "rd"
    refine ⟨C, dx, _, ⟨hr3, W.cl, W.nO, show 2 < 1000 by decide⟩, hU _ _ ?_⟩
    clear hU
    have b4 : But r H3 (upd H3 r (.ins C dx (putF (Str.ofString "lost") (.int (l : Nat)) [("shape", .str z), ("lengths", .ref a)]))) := But.put
    have hr4 : upd H3 r (.ins C dx (putF (Str.ofString "lost") (.int (l : Nat)) [("shape", .str z), ("lengths", .ref a)])) r = some (.ins C dx [("shape", .str z), ("lengths", .ref a), ("lost", .int (l : Nat))]) := upd_same
    generalize upd H3 r (.ins C dx (putF (Str.ofString "lost") (.int (l : Nat)) [("shape", .str z), ("lengths", .ref a)])) = H4 at b4 hr4 ⊢
    have ha4 := sqt_ins b4 hr3 ha3
    have kn4 := knl_ins b4 hr3 kn3
    have hka4 := b4 _ _ nkr hka3
    have b04 : But r H H4 := fun x o n e => b4 _ _ n (b3 _ _ n (b2 _ _ n (s010 _ _ e)))
    clear b2 b3 b4 hr2 hr3 ha2 ha3 kn2 kn3 hka2 hka3
    walk_at "rd"
    rw [Lc3.tLc2_list]
    walk_at "rd"
    have hT : ∀ i k, ks[i]? = some k → ltrs (ks.take (i + 1)) = ltrs (ks.take i) ++ k.nm.cps.toList := fun i k e => by
      rw [List.take_succ, e]
      unfold ltrs
      rw [List.flatMap_append]
      congr 1
      simp
    have sub4 : ∀ i, (ltrs (ks.take i)).length ≤ 4 := fun i => by
      have e : ltrs ks = ltrs (ks.take i) ++ ltrs (ks.drop i) := by
        unfold ltrs
        rw [← List.flatMap_append, List.take_append_drop]
      have := congrArg List.length e
      rw [List.length_append] at this
      have := rt.l4
      omega
    refine ⟨⟨_, rfl⟩, ⟨_, SqL.of hka4⟩, Lc3.lc2_ls (xs := as.map V.ref) (fun D i H' => Same H4 H' ∧ H' D = some (.lst (((ltrs (ks.take i)).map L1).map V.str))) fun D hD => ⟨⟨same_new hD, upd_same⟩, fun i H' _ hP => SqL.of (hP.1 _ _ hka4), ?_, ?_⟩⟩
    · rintro i x H5 hx ⟨s5, hD5⟩
      obtain ⟨A, hA, rfl⟩ := map_at hx
      have il := (List.getElem?_eq_some_iff.mp hA).1
      obtain ⟨kk, hk⟩ : ∃ kk, ks[i]? = some kk := ⟨_, List.getElem?_eq_getElem (by rw [← kn.1]; exact il)⟩
      have eA : SqL K H5 A (knV kk) := SqL.of (s5 _ _ (kn4.2 i A kk hA hk))
      have sb := sub4 (i + 1)
      rw [hT i kk hk, List.length_append] at sb
      walk_at "rd"
      refine ⟨_, eA, V.str kk.nm, atI_nn (by decide) rfl, kk.nm, rfl, Lc3.in2 (fun j H' => Same H4 H' ∧ H' D = some (.lst (((ltrs (ks.take i) ++ kk.nm.cps.toList.take j).map L1).map V.str))) ⟨s5, by rw [hD5]; simp⟩ ?_ ?_⟩
      · rintro j c H6 hc ⟨s6, hD6⟩
        have jl := (List.getElem?_eq_some_iff.mp hc).1
        walk_at "rd"
        refine ⟨_, hD6, ?_, fun x o e => by rw [upd_ne (ne_of_none e hD)]; exact s6 _ _ e, ?_⟩
        · rw [List.length_map, List.length_map, List.length_append, List.length_take]
          omega
        · rw [upd_same, List.take_succ, hc]
          simp
          rfl
      · rintro H6 ⟨s6, hD6⟩
        rw [List.take_length, ← hT i kk hk] at hD6
        exact ⟨s6, hD6⟩
    rintro H5 ⟨s5, hD5⟩
    rw [List.length_map, kn.1, List.take_length] at hD5
    refine ⟨D, rfl, (ltrs ks).map L1, SqL.of hD5, by rw [List.length_map]; have := rt.l4; omega, fun ys p pys sys hp => ?_⟩
    obtain ⟨cs, rfl, cl, cp, _⟩ := sorted_L pys sys ⟨rt.nd, rt.lo⟩
    have ecs : cs = srtN (ltrs ks) := by
      refine srtN_of ?_ (cp.imp fun h => Nat.le_of_lt h)
      have := pys.map fun s : Str => s.cps.toList.headD 0
      rw [List.map_map, List.map_map] at this
      have e3 : ∀ fs : List Nat, (fs.map ((fun s : Str => s.cps.toList.headD 0) ∘ L1)) = fs := fun fs => (List.map_congr_left fun c _ => rfl).trans (List.map_id' fs)
      rwa [e3, e3] at this
    have s6 := s5.trans (same_new (o := HO.lst ((cs.map L1).map V.str)) hp)
    have e6 : upd H5 p (.lst ((cs.map L1).map V.str)) p = some (.lst ((cs.map L1).map V.str)) := upd_same
    generalize upd H5 p (.lst ((cs.map L1).map V.str)) = H6 at s6 e6 ⊢
    refine ⟨cs.map L1, .inl (SqL.of e6), ?_, ?_⟩
    · have h1 := sum_le (fun s : Str => s.length) 1 (cs.map L1) fun x hx => by
        obtain ⟨c, _, rfl⟩ := List.mem_map.mp hx
        exact Nat.le_refl _
      have z0 : (Str.ofString "").length = 0 := by decide
      rw [List.length_map] at h1
      have := rt.l4
      rw [z0]
      omega
    rw [join_L1, ecs]
    refine ⟨C, dx, _, ⟨s6 _ _ hr4, W.cl, W.nT, show 3 < 1000 by decide⟩, k _ (fun x o n e => ?_) ⟨dx, a, upd_same, ?_, ok⟩⟩
    · rw [upd_ne n]
      exact s6 _ _ (b04 _ _ n e)
    · exact sqt_ins (But.put) (s6 _ _ hr4) (sqt_up s6 ha4)
end
end K10

set_option Elab.async false
set_option linter.all false
set_option maxRecDepth 100000
set_option maxHeartbeats 2000000
/-! < of data that are alike; sum of a tuple of numbers -/
namespace Ol
open PySem PySem.Spec PyProof.Rows L2 Rd Dt PySem.W
def rLtD (K : PySem.W.Frag) : R2 := fun x y H Q => ∃ d e, Dp K H x d ∧ Dp K H y e ∧ alike d e = true ∧ d ≠ .none ∧ d.depth < 60 ∧ Q (.bl (dataLt d e)) H
theorem op_ltD {X : Cx} (hu : X.A.units + 64 < cLine) : OpR X (compareOp .Lt) (rLtD X.K) := by
  intro pins s σ H x y v u Q I rx ry h
  obtain ⟨d, e, hd, he, al, nn, dp, q⟩ := h
  obtain ⟨as, r1⟩ := Dp.reads I d x v hd rx
  obtain ⟨bs, r2⟩ := Dp.reads I e y u he ry
  have R := rcLt_alike d e X.A s v u as bs r1 r2 al nn (by have := Nat.min_le_left d.depth e.depth; omega)
  have z : wpAny (model X.prog X.w) X.A (compareOp .Lt v u) (EP X pins σ Q) X.xe s := R X.prog X.w X.xe (EP X pins σ Q) ⟨.bl _, H, I, rfl, q⟩
  exact z
theorem alike_ints : ∀ xs ys : List Int, alikeAll (xs.map PyData.int) (ys.map PyData.int) = true
  | [], _ => by simp [alikeAll]
  | _ :: _, [] => by simp [alikeAll]
  | x :: xs, y :: ys => by
    rw [List.map_cons, List.map_cons, alikeAll, alike, alike_ints xs ys]
    rfl
section
variable {prog : Program} {w : World} {A : Around} {E : Value → Shared → Prop} {s : Shared} {l : Addr}
theorem sum_tup {its : List Value} {ns : List Int} {Q : Value → Shared → Prop} (hh : A.handled = none) (hl : s.heap.IsTuple l its.toArray) (hi : IntsAre its ns)
    (h : ∀ h' tk t', (∀ b o, s.heap.get? b = some o → h'.get? b = some o) → Q (.int ns.sum t') { s with heap := h', toks := tk }) : wpAny (model prog w) A (call (.builtin "sum") [.ref l]) Q E s := by
  obtain ⟨xs, e⟩ := hi.allInts.items
  have hn : numsOf (intItems xs).toList = ns := by rw [← e]; exact hi.numsOf
  rw [nums_intItems] at hn
  rw [e] at hl
  have hlt : l < s.heap.objs.size := by obtain ⟨_, e, _⟩ := hl; exact Heap.lt_size e
  refine call_sum_walkG (wpAny_pyIter_tuple hl ?_)
  refine ⟨_, _, _, _, _, _, numAt xs, rfl, Walks.tuple (A := A.in1) hh _ l (Nat.ne_of_lt hlt) (intItems xs), ⟨⟨_, Heap.get?_push_size _ rfl, rfl, rfl⟩, hl.push _⟩, fun b hb => ?_, (fun _ _ => intItems_at), fun h' tk t' hk => ?_⟩
  · show b < (s.heap.push _).objs.size
    rw [Heap.size_push]
    rcases List.mem_cons.mp hb with rfl | hb
    · exact Nat.lt_succ_self _
    · rw [List.mem_singleton.mp hb]
      exact Nat.lt_succ_of_lt hlt
  · have hold : ∀ c o, s.heap.get? c = some o → h'.get? c = some o := fun c o e => by
      refine hk c o (fun hm => ?_) (Heap.get?_push_of_some _ e)
      have := Heap.lt_size e
      rw [List.mem_singleton.mp hm] at this
      exact Nat.lt_irrefl _ this
    have := h h' tk t' hold
    rw [show (intItems xs).size = xs.size by simp [intItems], preSum_eq, List.take_of_length_le (by simp), hn]
    exact this
end
def rSumT (K : PySem.W.Frag) : List V → Hp → VK → Prop := fun vs H Q => ∃ (a : Addr) (ns : List Int), vs = [V.ref a] ∧ SqT K H a (ns.map V.int) ∧ Q (.int ns.sum) H
theorem cr_sumT {X : Cx} (hc : X.calm = true) : CallR X (.builtin "sum") (rSumT X.K) := by
  intro pins s σ H vs us Q I r h
  obtain ⟨a, ns, rfl, hs, q⟩ := h
  obtain ⟨its, rv, hl, _⟩ := I.tuple hs
  rw [Vals.ref1 r]
  exact sum_tup (I.ok.hd hc) hl rv.ints fun h' tk t' hk => ⟨.int _, H, I.kept hk, ⟨_, rfl⟩, q⟩
theorem cr_sumTK {X : Cx} {K : PySem.W.Frag} (hK : X.K = K) (hc : X.calm = true) : CallR X (.builtin "sum") (rSumT K) := by
  subst hK
  exact cr_sumT hc
end Ol

set_option Elab.async false
set_option linter.all false
set_option maxRecDepth 100000
set_option maxHeartbeats 4000000
namespace K10
open PySem PySem.Spec PyProof.Rows L2 Rd Dt Dq Pk Ln En Sx Sy So Sr Lk Rq
local macro_rules | `(tactic| walk_at "rd") => `(tactic| try simp only [↓Lk.tLockE_, ↓Lk.tLock_, ↓Lk.tLc_keys, ↓Lk.tFor_keys, ↓Sy.tTupP_, ↓Sy.rTupP_, ↓Sy.rCatP_, ↓Sy.rSlP_, ↓Sy.rDictT_, ↓Sy.tDGet_, ↓Sy.tDGet1_, ↓Sy.tDIn_, ↓Sy.tDNotIn_, ↓Sy.tMeth_, ↓Sy.tMethKw_, ↓Sy.rSortedS_, ↓Sx.rIsT_, ↓En.tFor_enumT, ↓Sy.tFor_enumL, ↓Rv.tMakeKw_, ↓Prp.tProp_, ↓Lo.tBits_, ↓Lo.tJs_n, ↓Lo.tJs_c, ↓Lo.tFmt_, ↓Lo.gFld_, ↓Lo.tMake_, ↓Lo.rOwn_, ↓Rg.tFor_range3, ↓Rg.tLc_range3, ↓Rg.tLstC_, ↓Rg.tLc_rngV, ↓Le.rNeLE_, ↓Le.rEqLE_, ↓Ls.tLc_str, ↓Ls.sDPut_, ↓Rl.rReprL_, ↓Rl.tCallKS_, ↓Ob.tFld_, ↓Ob.sFld_, ↓tVar_, ↓tC_, ↓tM1, ↓tDNewK_, ↓tOp_, ↓tUn_, ↓rI_, ↓rI0_, ↓rU_, ↓eq_ii, ↓ne_ii, ↓eq_ss, ↓ne_ss, ↓eq_bb, ↓ne_bb, ↓tAndV_, ↓tOrV_, ↓tNotV_, ↓tIf_, ↓tTest_, ↓tB_, ↓tAnd_, ↓tOr_, ↓tNot_, ↓tChain_, ↓tNil_, ↓tCons_, ↓tTup_, ↓tLst_, ↓tCB_, ↓tCall_, ↓tSeq_, ↓tNext_, ↓tRet_, ↓tRetN_, ↓tDrop_, ↓tBreak_, ↓tNever_, ↓tIfS_, ↓tAsg_, ↓gName_, ↓gTup_, ↓gCons_, ↓gNil_, ↓gSub_, ↓tPar_, ↓tPar3_, ↓tSl_, ↓tNoPart_, ↓tPart_, ↓tBM_, ↓tFor_range1, ↓tFor_range2, ↓tFor_list, ↓tFor_tup, L2.start, List.headD_cons, List.headD_nil, List.tail_cons, List.map_cons, List.map_nil, List.length_cons, List.length_nil, List.replicate, List.append_nil, List.nil_append, List.cons_append, List.getElem?_cons_zero, List.getElem?_cons_succ, List.set_cons_zero, List.set_cons_succ, Option.some.injEq, V.int.injEq, V.bl.injEq, V.str.injEq, V.ref.injEq, exists_eq_left, exists_eq_left', exists_eq_right, exists_eq, exists_and_left, and_true, true_and, decide_eq_true_eq, Nat.reduceAdd, Nat.reduceSub, Nat.add_zero, Nat.zero_add, List.cons.injEq, Bool.not_eq_true', decide_eq_false_iff_not, eq_self, reduceCtorEq, Bool.false_eq_true, if_true, if_false, ite_true, ite_false, and_self, ↓tLc_range1, ↓tLc_range2, ↓tLc_list, ↓tLc_tup, ↓tYes_, wipe0, wipe1, ↓tCallS_, ↓rIxL_, ↓rIxT_, ↓rSlL_, ↓rCat_, ↓rSetL_, ↓rRep_, ↓rGcd_, ↓tCallK_, ↓gUnl_, ↓tRaise_, decide_true, decide_false, not_true_eq_false, not_false_eq_true, false_and, or_false, false_or, and_false, and_assoc, exists_const, forall_const, forall_eq'])


section
variable {P : Program} {w : World} {K : PySem.W.Frag} {mg : Str → Option Value} {base : Heap}
/-! ### Plan: ==, size, text -/
open Kp
section
variable {C : Addr}
theorem PlA.up {H H' : Hp} (s : Same H H') {r : Addr} {z : Str} {ks : List Kn} {ls : List Nat} {l : Nat} (h : PlA K C H r z ks ls l) : PlA K C H' r z ks ls l := by
  obtain ⟨dx, a, h1, h2, h3⟩ := h
  exact ⟨dx, a, s _ _ h1, sqt_up s h2, h3⟩
theorem PlA.fa (W : PlB K C) {H : Hp} {r dx a : Addr} {z lt : Str} {l : Int} (h : H r = some (.ins C dx (pf z a l lt))) :
    Ob.FA K H r "shape" (.str z) ∧ Ob.FA K H r "lengths" (.ref a) ∧ Ob.FA K H r "lost" (.int l) ∧ Ob.FA K H r "letters" (.str lt) :=
  ⟨⟨C, dx, _, h, W.cl, W.nS, rfl⟩, ⟨C, dx, _, h, W.cl, W.nL, rfl⟩, ⟨C, dx, _, h, W.cl, W.nO, rfl⟩, ⟨C, dx, _, h, W.cl, W.nT, rfl⟩⟩
def dLs (ls : List Nat) : PyData := .tuple ((ls.map fun n : Nat => (n : Int)).map .int)
theorem dp_Ls {H : Hp} {a : Addr} {l : List Nat} (h : SqT K H a (l.map fun n : Nat => V.int n)) : Dp K H (.ref a) (dLs l) := by
  refine .tup h ?_
  clear h
  induction l with
  | nil => exact .nil
  | cons y ys ih => exact .cons (.int _) ih
theorem fit_Ls {l : List Nat} (h : ∀ x ∈ l, x ≤ far) : Fit (dLs l) 1 (l.length * (101 + 3) + 3) := by
  have := Fit.tuple (ds := (l.map fun n : Nat => (n : Int)).map PyData.int) (k := 0) (n := 102) fun d hd => by
    obtain ⟨n, hn, rfl⟩ := List.mem_map.mp hd
    obtain ⟨x, hx, rfl⟩ := List.mem_map.mp hn
    have := h x hx
    exact Fit.int (k := 101) (by decide) (by decide) (by
      rw [Int.natAbs_natCast]
      exact Nat.lt_of_le_of_lt this (by decide))
  rw [List.length_map, List.length_map] at this
  exact this
theorem eqv_Ls (l m : List Nat) : PyData.eqv (dLs l) (dLs m) = decide (l = m) := by
  unfold dLs
  rw [PyData.eqv, eqv_ints, decide_eq_decide]
  exact ⟨fun h => List.map_inj_right (fun x y e => Int.ofNat.inj e) |>.mp h, fun h => by rw [h]⟩
def spPE (K : PySem.W.Frag) (C : Addr) : Sp := fun vs H Q _ => ∃ (r b : Addr) (z z' : Str) (ks ks' : List Kn) (ls ls' : List Nat) (l l' : Nat), vs = [.ref r, .ref b] ∧ PlA K C H r z ks ls l ∧ PlA K C H b z' ks' ls' l' ∧ Q (.bl (decide (z = z') && (decide (ls = ls') && decide (l = l')))) H
theorem sc_pe : FnScope ["self", "other"] ["self", "other"] (defScope (inClass (top 24) 1)) := ⟨rfl, rfl, rfl, by decide +kernel, rfl, by decide +kernel, by decide +kernel⟩
theorem ok_pe {f fi : Addr} {fd : FuncData} {q : Str} (T : Tx mg) (W : PlB K C) (L : PlM K mg C fi) (F : FM K "__eq__" q (inClass (top 24) 1) f fd) : FnOk P w K mg base CX0 1 f fd ["self", "other"] (spPE K C) := by
  refine F.ok sc_pe (fun vs H Q E h => ?_) (fun cdv A outer s H vs Q E hr h => ?_)
  · obtain ⟨_, _, _, _, _, _, _, _, _, _, rfl, _⟩ := h
    rfl
  · obtain ⟨r, b, z, z', ks, ks', ls, ls', l, l', rfl, ⟨dx, a, hr0, ha, ok⟩, ⟨dy, a', hb, ha', ok'⟩, k⟩ := h
    have nd := sc_pe.nd
    obtain ⟨f1, f2, f3, f4⟩ := PlA.fa W hr0
    obtain ⟨g1, g2, g3, g4⟩ := PlA.fa W hb
    refine ⟨_, (pss_cons (ps_if (pt_not (pt_val (pe_callB call_isi (by rfl) T.b_isinstance (by decide +kernel) (pa_cons (pv 1) (pa_cons (pe_glob (v := .ref C) rfl L.g rfl) pa_nil))))) (pss_one (ps_ret pe_bl)) pss_nil)
        (pss_one (ps_ret (pe_and (pe_cmpR op_eq (Ob.pe_fldK (K := K) rfl (pv 0) rfl) (Ob.pe_fldK (K := K) rfl (pv 1) rfl) (nomark _)) (pe_and (pe_cmpR (op_eqD hr.units) (Ob.pe_fldK (K := K) rfl (pv 0) rfl) (Ob.pe_fldK (K := K) rfl (pv 1) rfl) (nomark _)) (pe_one (pe_cmpR op_eq (Ob.pe_fldK (K := K) rfl (pv 0) rfl) (Ob.pe_fldK (K := K) rfl (pv 1) rfl) (nomark _)))))))), ?_⟩
    walk_at "rd"
    have kit : PySem.W.kitOne K (.ref C) (.ref C) = some true := by unfold PySem.W.kitOne; rw [if_pos (by exact beq_self_eq_true _)]
    refine ⟨_, _, .ref C, .ref C, true, rfl, .own C, .base (.ins hb L.own.cl L.own.ha L.own.hn L.own.ht L.own.hm), kit, true, rfl, ?_⟩
    rw [if_neg (by decide)]
    refine ⟨_, f1, _, g1, ?_⟩
    simp only [eq_ss]
    refine ⟨_, rfl, ?_⟩
    by_cases q1 : z = z'
    rotate_left
    · rw [decide_eq_false q1] at k ⊢
      exact k
    rw [decide_eq_true q1] at k ⊢
    rw [if_pos rfl]
    refine ⟨_, f2, _, g2, rEqD_ (fit_Ls fun x hx => (ok.b x hx).2) (fit_Ls fun x hx => (ok'.b x hx).2) (by decide) (by decide) (dp_Ls ha) (dp_Ls ha') ⟨_, rfl, ?_⟩⟩
    rw [eqv_Ls]
    by_cases q2 : ls = ls'
    rotate_left
    · rw [decide_eq_false q2] at k ⊢
      rw [if_neg (by decide)]
      exact k
    rw [decide_eq_true q2] at k ⊢
    rw [if_pos rfl]
    refine ⟨_, f3, _, g3, ?_⟩
    simp only [eq_ii]
    have e : decide ((l : Int) = (l' : Int)) = decide (l = l') := decide_eq_decide.mpr ⟨fun h => Int.ofNat.inj h, fun h => by rw [h]⟩
    rw [e]
    exact k
/-! size -/
def spPS (K : PySem.W.Frag) (C : Addr) : Sp := fun vs H Q _ => ∃ (r : Addr) (z : Str) (ks : List Kn) (ls : List Nat) (l : Nat), vs = [.ref r] ∧ PlA K C H r z ks ls l ∧ Q (.int (ls.sum + l : Nat)) H
theorem sc_ps : FnScope ["self"] ["self"] (defScope (inClass (top 24) 2)) := ⟨rfl, rfl, rfl, by decide +kernel, rfl, by decide +kernel, by decide +kernel⟩
theorem ok_ps {f : Addr} {fd : FuncData} {q : Str} (T : Tx mg) (W : PlB K C) (F : FM K "size" q (inClass (top 24) 2) f fd) : FnOk P w K mg base CX0 1 f fd ["self"] (spPS K C) := by
  refine F.ok sc_ps (fun vs H Q E h => ?_) (fun cdv A outer s H vs Q E hr h => ?_)
  · obtain ⟨_, _, _, _, _, rfl, _⟩ := h
    rfl
  · obtain ⟨r, z, ks, ls, l, rfl, ⟨dx, a, hr0, ha, ok⟩, k⟩ := h
    have nd := sc_ps.nd
    obtain ⟨f1, f2, f3, f4⟩ := PlA.fa W hr0
    refine ⟨_, (pss_one (ps_ret (pe_op op_add (pe_callB (Ol.cr_sumTK (K := K) rfl rfl) (by rfl) T.b_sum (by decide +kernel) (pa_cons (Ob.pe_fldK (K := K) rfl (pv 0) rfl) pa_nil)) (Ob.pe_fldK (K := K) rfl (pv 0) rfl)))), ?_⟩
    walk_at "rd"
    refine ⟨_, f2, a, ls.map fun n : Nat => (n : Int), rfl, ?_, _, f3, _, rfl, _, rfl, ?_⟩
    · rw [List.map_map]
      exact ha
    · have e : ∀ ls : List Nat, (ls.map fun n : Nat => (n : Int)).sum = ((ls.sum : Nat) : Int) := fun ls => by
        induction ls with
        | nil => rfl
        | cons x ls ih =>
          rw [List.map_cons, List.sum_cons, List.sum_cons, ih]
          omega
      rw [e, show ((ls.sum : Nat) : Int) + (l : Int) = ((ls.sum + l : Nat) : Int) by omega]
      exact k
/-! text -/
theorem join_int_ne {ls : List Nat} : Txt.join (Str.ofString " ") (ls.map fun l => intT l) = Str.ofString "" ↔ ls = [] := by
  constructor
  · intro h
    cases ls with
    | nil => rfl
    | cons n ls =>
      have h2 := congrArg TL.tl h
      rw [TL.join_eq, TL.tl_join, List.map_cons, List.map_cons] at h2
      have e : TL.tl (Str.ofString "") = [] := by decide +kernel
      have e2 : TL.tl (intT n) = TL.numL n := TL.tl_num n
      rw [e, e2] at h2
      exfalso
      have n0 := TL.numL_ne n
      cases ls with
      | nil => exact n0 h2
      | cons m ls =>
        have h3 : TL.numL n ++ (TL.tl (Str.ofString " ") ++ TL.joinL (TL.tl (Str.ofString " ")) _) = [] := h2
        exact n0 (List.append_eq_nil_iff.mp h3).1
  · rintro rfl
    rfl
def spPX (K : PySem.W.Frag) (C : Addr) : Sp := fun vs H Q _ => ∃ (r : Addr) (z : Str) (ks : List Kn) (ls : List Nat) (l : Nat), vs = [.ref r] ∧ PlA K C H r z ks ls l ∧ ∀ H', Same H H' → Q (.str (z ++ " | " ++ lenT ls ++ " | " ++ intT l)) H'
theorem sc_px : FnScope ["self", "words", "length"] ["self"] (defScope (inClass (top 24) 3)) := ⟨rfl, rfl, rfl, by decide +kernel, rfl, by decide +kernel, by decide +kernel⟩
theorem ok_px {f : Addr} {fd : FuncData} {q : Str} (T : Tx mg) (W : PlB K C) (F : FM K "text" q (inClass (top 24) 3) f fd) : FnOk P w K mg base CX0 1 f fd ["self"] (spPX K C) := by
  refine F.ok sc_px (fun vs H Q E h => ?_) (fun cdv A outer s H vs Q E hr h => ?_)
  · obtain ⟨_, _, _, _, _, rfl, _⟩ := h
    rfl
  · obtain ⟨r, z, ks, ls, l, rfl, ⟨dx, a, hr0, ha, ok⟩, k⟩ := h
    have nd := sc_px.nd
    have zl : (1000000 : Nat) ≤ sizeLine := line_big
    obtain ⟨f1, f2, f3, f4⟩ := PlA.fa W hr0
    refine ⟨_, (pss_cons (ps_set (i := 1) nd rfl (Or.inl rfl) (pe_join pe_str (pe_lc (own := [("length", 2)]) rfl nd (pi_tup (Ob.pe_fldK (K := K) rfl (pv 0) rfl)) (blkOk_by (N := ["self", "words", "length"]) (sc := defScope (inClass (top 24) 3)) (by decide +kernel)) (fun _ _ _ _ _ => (pg_name (i := 2) nd rfl (Or.inl rfl))) (fun _ _ _ _ _ => pts_nil) (fun _ _ _ _ _ => (pe_callTy call_str_int (by rfl) T.b_str (by decide +kernel) (pa_cons (pv 2) pa_nil))))))
        (pss_one (ps_ret (pe_op op_add_str (pe_op op_add_str (pe_op op_add_str (pe_op op_add_str (Ob.pe_fldK (K := K) rfl (pv 0) rfl) pe_str) (pe_ifExp (pt_cmpR op_ne (pv 1) pe_str (nomark _)) (pv 1) pe_str)) pe_str) (pe_callTy call_str_int (by rfl) T.b_str (by decide +kernel) (pa_cons (Ob.pe_fldK (K := K) rfl (pv 0) rfl) pa_nil)))))), ?_⟩
    refine sq fun U hU => ?_
    walk_at "rd"
    have lf : ls.length ≤ 4001 := by
      rw [ok.len]
      exact Nat.le_trans (List.length_filter_le _ _) (kin_facts ok.sok ok.sh.kin).1
    have f120 : far < 2 ^ 120 := by decide
    have lb2 : ∀ x ∈ ls, x < 2 ^ 120 := fun x hx => Nat.lt_of_le_of_lt (ok.b x hx).2 f120
    have l120 : l < 2 ^ 120 := Nat.lt_of_le_of_lt ok.lb f120
    have lc (n : Nat) (h : n < 2 ^ 120) : ((n : Int)).natAbs.log2 < 1920 := by
      rw [Int.natAbs_natCast]
      refine Nat.lt_of_le_of_lt (Nat.le_of_lt_succ (n := 120) ?_) (by decide)
      by_cases z : n = 0
      · subst z; decide
      · exact Nat.lt_succ_of_lt ((Nat.log2_lt z).mpr h)
    refine ⟨⟨_, rfl⟩, _, f2, a, rfl, ⟨_, ha⟩, lc_t (xs := ls.map fun l => V.int (l : Nat)) (fun D j H' => Same H H' ∧ H' D = some (.lst (((ls.take j).map fun l => intT l).map V.str))) fun D hD => ⟨⟨same_new hD, upd_same⟩, fun j H' _ hP => sqt_up hP.1 ha, ?_, ?_⟩⟩
    · rintro j y H5 hy ⟨s5, hL5⟩
      obtain ⟨n, hn, rfl⟩ := map_at hy
      unfold Lturn
      walk_at "rd"
      refine ⟨lc n (lb2 n (List.mem_of_getElem? hn)), _, hL5, ?_, fun x o e => ?_, ?_⟩
      · rw [List.length_map, List.length_map, List.length_take]
        omega
      · rw [upd_ne (ne_of_none e hD)]
        exact s5 _ _ e
      · rw [upd_same, List.take_succ, hn, List.map_append, List.map_append]
        rfl
    rintro H5 ⟨s5, hL5⟩
    rw [List.length_map, List.take_length] at hL5
    have s1b : (" ":Str).length = 1 := by decide
    have h1 := sum_le (fun s : Str => s.length) 130 (ls.map fun l => intT l) (fun s hs => by
      obtain ⟨n, hn, rfl⟩ := List.mem_map.mp hs
      exact intT_len (lb2 n hn))
    rw [List.length_map] at h1
    have jw := join_len (y := " ") (ws := ls.map fun l => intT l) (m := 130) (fun w hw => by
      obtain ⟨n, hn, rfl⟩ := List.mem_map.mp hw
      exact intT_len (lb2 n hn))
    rw [List.length_map, s1b] at jw
    refine ⟨D, rfl, ls.map fun l => intT l, .inl (SqL.of hL5), by rw [List.length_map, s1b]; omega, hU _ _ ?_⟩
    clear hU
    walk_at "rd"
    obtain ⟨f1', _, f3', _⟩ := PlA.fa W (s5 _ _ hr0)
    have zl4 := ok.sok.1
    have sb : (" | ":Str).length = 3 := by decide
    have sn : ("none":Str).length = 4 := by decide
    have il2 : (Str.ofString (toString (l : Int))).length ≤ 130 := intT_len l120
    have kk := k H5 s5
    refine ⟨_, f1', _, rfl, by rw [sb]; omega, ?_⟩
    by_cases c : ls = []
    · rw [if_neg (fun h => h (join_int_ne.mpr c))]
      unfold lenT at kk
      rw [if_pos c] at kk
      exact ⟨by rw [Str.length_append, sb, sn]; omega, by rw [Str.length_append, Str.length_append, sb, sn]; omega, _, f3', _, rfl, lc l l120, by rw [Str.length_append, Str.length_append, Str.length_append, sb, sn]; omega, kk⟩
    · rw [if_pos (fun h => c (join_int_ne.mp h))]
      unfold lenT at kk
      rw [if_neg c] at kk
      exact ⟨by rw [Str.length_append, sb]; omega, by rw [Str.length_append, Str.length_append, sb]; omega, _, f3', _, rfl, lc l l120, by rw [Str.length_append, Str.length_append, Str.length_append, sb]; omega, kk⟩
end
end
end K10

set_option Elab.async false
set_option linter.all false
set_option maxRecDepth 100000
set_option maxHeartbeats 4000000
namespace K10
open PySem PySem.Spec PyProof.Rows L2 Rd Dt Dq Pk Ln En Sx Sy So Sr Lk Rq
local macro_rules | `(tactic| walk_at "rd") => `(tactic| try simp only [↓Lk.tLockE_, ↓Lk.tLock_, ↓Lk.tLc_keys, ↓Lk.tFor_keys, ↓Sy.tTupP_, ↓Sy.rTupP_, ↓Sy.rCatP_, ↓Sy.rSlP_, ↓Sy.rDictT_, ↓Sy.tDGet_, ↓Sy.tDGet1_, ↓Sy.tDIn_, ↓Sy.tDNotIn_, ↓Sy.tMeth_, ↓Sy.tMethKw_, ↓Sy.rSortedS_, ↓Sx.rIsT_, ↓En.tFor_enumT, ↓Sy.tFor_enumL, ↓Rv.tMakeKw_, ↓Prp.tProp_, ↓Lo.tBits_, ↓Lo.tJs_n, ↓Lo.tJs_c, ↓Lo.tFmt_, ↓Lo.gFld_, ↓Lo.tMake_, ↓Lo.rOwn_, ↓Rg.tFor_range3, ↓Rg.tLc_range3, ↓Rg.tLstC_, ↓Rg.tLc_rngV, ↓Le.rNeLE_, ↓Le.rEqLE_, ↓Ls.tLc_str, ↓Ls.sDPut_, ↓Rl.rReprL_, ↓Rl.tCallKS_, ↓Ob.tFld_, ↓Ob.sFld_, ↓tVar_, ↓tC_, ↓tM1, ↓tDNewK_, ↓tOp_, ↓tUn_, ↓rI_, ↓rI0_, ↓rU_, ↓eq_ii, ↓ne_ii, ↓eq_ss, ↓ne_ss, ↓eq_bb, ↓ne_bb, ↓tAndV_, ↓tOrV_, ↓tNotV_, ↓tIf_, ↓tTest_, ↓tB_, ↓tAnd_, ↓tOr_, ↓tNot_, ↓tChain_, ↓tNil_, ↓tCons_, ↓tTup_, ↓tLst_, ↓tCB_, ↓tCall_, ↓tSeq_, ↓tNext_, ↓tRet_, ↓tRetN_, ↓tDrop_, ↓tBreak_, ↓tNever_, ↓tIfS_, ↓tAsg_, ↓gName_, ↓gTup_, ↓gCons_, ↓gNil_, ↓gSub_, ↓tPar_, ↓tPar3_, ↓tSl_, ↓tNoPart_, ↓tPart_, ↓tBM_, ↓tFor_range1, ↓tFor_range2, ↓tFor_list, ↓tFor_tup, L2.start, List.headD_cons, List.headD_nil, List.tail_cons, List.map_cons, List.map_nil, List.length_cons, List.length_nil, List.replicate, List.append_nil, List.nil_append, List.cons_append, List.getElem?_cons_zero, List.getElem?_cons_succ, List.set_cons_zero, List.set_cons_succ, Option.some.injEq, V.int.injEq, V.bl.injEq, V.str.injEq, V.ref.injEq, exists_eq_left, exists_eq_left', exists_eq_right, exists_eq, exists_and_left, and_true, true_and, decide_eq_true_eq, Nat.reduceAdd, Nat.reduceSub, Nat.add_zero, Nat.zero_add, List.cons.injEq, Bool.not_eq_true', decide_eq_false_iff_not, eq_self, reduceCtorEq, Bool.false_eq_true, if_true, if_false, ite_true, ite_false, and_self, ↓tLc_range1, ↓tLc_range2, ↓tLc_list, ↓tLc_tup, ↓tYes_, wipe0, wipe1, ↓tCallS_, ↓rIxL_, ↓rIxT_, ↓rSlL_, ↓rCat_, ↓rSetL_, ↓rRep_, ↓rGcd_, ↓tCallK_, ↓gUnl_, ↓tRaise_, decide_true, decide_false, not_true_eq_false, not_false_eq_true, false_and, or_false, false_or, and_false, and_assoc, exists_const, forall_const, forall_eq'])


section
variable {P : Program} {w : World} {K : PySem.W.Frag} {mg : Str → Option Value} {base : Heap}
/-! ### check_plan, plan_key, comes_before -/
open Kp PySem.W
section
variable {C : Addr}
def spCkP (K : PySem.W.Frag) (C : Addr) : Sp := fun vs H Q _ => ∃ (r : Addr) (z : Str) (ks : List Kn) (ls : List Nat) (l : Nat), vs = [.ref r] ∧ PlA K C H r z ks ls l ∧ Q .non H
theorem sc_ckp : FnScope ["value"] ["value"] (defScope (top 25)) := ⟨rfl, rfl, rfl, by decide +kernel, rfl, by decide +kernel, by decide +kernel⟩
theorem ok_ckp {f fi : Addr} {fd : FuncData} (T : Tx mg) (W : PlB K C) (L : PlM K mg C fi) (F : FD K "check_plan" (top 25) f fd) : FnOk P w K mg base CX0 1 f fd ["value"] (spCkP K C) := by
  refine F.ok sc_ckp (fun vs H Q E h => ?_) (fun cdv A outer s H vs Q E hr h => ?_)
  · obtain ⟨_, _, _, _, _, rfl, _⟩ := h
    rfl
  · obtain ⟨r, z, ks, ls, l, rfl, ⟨dx, a, hr0, ha, ok⟩, k⟩ := h
    have nd := sc_ckp.nd
    refine ⟨_, (pss_one (ps_if (pt_not (pt_val (pe_callB call_isi (by rfl) T.b_isinstance (by decide +kernel) (pa_cons (pv 0) (pa_cons (pe_glob (v := .ref C) rfl L.g rfl) pa_nil))))) (pss_one ps_never) pss_nil)), ?_⟩
    walk_at "rd"
    have kit : PySem.W.kitOne K (.ref C) (.ref C) = some true := by unfold PySem.W.kitOne; rw [if_pos (by exact beq_self_eq_true _)]
    refine ⟨_, _, .ref C, .ref C, true, rfl, .own C, .base (.ins hr0 L.own.cl L.own.ha L.own.hn L.own.ht L.own.hm), kit, true, rfl, ?_⟩
    rw [if_neg (by decide)]
    exact k
def dPk (z : Str) (ls : List Nat) (l : Nat) : PyData := .tuple [.int (ls.sum + l : Nat), .str z, dLs ls, .int (l : Nat)]
theorem depth_ints : ∀ xs : List Int, PyData.depthAll (xs.map PyData.int) ≤ 1
  | [] => by simp [PyData.depthAll]
  | x :: xs => by
    have := depth_ints xs
    simp only [List.map_cons, PyData.depthAll, PyData.depth]
    omega
theorem dPk_depth (z : Str) (ls : List Nat) (l : Nat) : (dPk z ls l).depth < 60 := by
  have := depth_ints (ls.map fun n : Nat => (n : Int))
  unfold dPk dLs
  simp only [PyData.depth, PyData.depthAll]
  omega
def spPk (K : PySem.W.Frag) (C : Addr) : Sp := fun vs H Q _ => ∃ (r : Addr) (z : Str) (ks : List Kn) (ls : List Nat) (l : Nat), vs = [.ref r] ∧ PlA K C H r z ks ls l ∧ ∀ t H', Same H H' → Dp K H' (.ref t) (dPk z ls l) → Q (.ref t) H'
theorem sc_pk : FnScope ["plan"] ["plan"] (defScope (top 26)) := ⟨rfl, rfl, rfl, by decide +kernel, rfl, by decide +kernel, by decide +kernel⟩
theorem ok_pk {f : Addr} {fd : FuncData} (T : Tx mg) (W : PlB K C) {p1 g1 : Addr} {fdp : FuncData} (PS : Prp.PrC P w K mg base 1 C "size" (spPS K C) p1 g1 fdp) (F : FD K "plan_key" (top 26) f fd) : FnOk P w K mg base CX0 3 f fd ["plan"] (spPk K C) := by
  refine F.ok sc_pk (fun vs H Q E h => ?_) (fun cdv A outer s H vs Q E hr h => ?_)
  · obtain ⟨_, _, _, _, _, rfl, _⟩ := h
    rfl
  · obtain ⟨r, z, ks, ls, l, rfl, pa, k⟩ := h
    have nd := sc_pk.nd
    obtain ⟨dx, a, hr0, ha, ok⟩ := id pa
    obtain ⟨f1, f2, f3, f4⟩ := PlA.fa W hr0
    refine ⟨_, (pss_one (ps_ret (pe_tup (pa_cons (Prp.pe_propK rfl rfl rfl rfl rfl (pv 0) W.cl PS (hr.mono (by omega)) pass0 rfl) (pa_cons (Ob.pe_fldK (K := K) rfl (pv 0) rfl) (pa_cons (Ob.pe_fldK (K := K) rfl (pv 0) rfl) (pa_cons (Ob.pe_fldK (K := K) rfl (pv 0) rfl) pa_nil))))))), ?_⟩
    walk_at "rd"
    refine ⟨dx, _, hr0, r, z, ks, ls, l, rfl, pa, _, f1, _, f2, _, f3, by decide, fun p hp => k p _ (same_new hp) ?_⟩
    have ha2 := sqt_up (same_new (o := HO.tup [V.int (ls.sum + l : Nat), .str z, .ref a, .int (l : Nat)]) hp) ha
    exact .tup (SqT.of upd_same) (.cons (.int _) (.cons (.str _) (.cons (dp_Ls ha2) (.cons (.int _) .nil))))
def spCb (K : PySem.W.Frag) (C : Addr) : Sp := fun vs H Q _ => ∃ (r b : Addr) (z z' : Str) (ks ks' : List Kn) (ls ls' : List Nat) (l l' : Nat), vs = [.ref r, .ref b] ∧ PlA K C H r z ks ls l ∧ PlA K C H b z' ks' ls' l' ∧ ∀ H', Same H H' → Q (.bl (dataLt (dPk z ls l) (dPk z' ls' l'))) H'
theorem sc_cb : FnScope ["self", "other"] ["self", "other"] (defScope (inClass (top 24) 4)) := ⟨rfl, rfl, rfl, by decide +kernel, rfl, by decide +kernel, by decide +kernel⟩
theorem ok_cb {f : Addr} {fd : FuncData} {q : Str} (T : Tx mg) (F : FM K "comes_before" q (inClass (top 24) 4) f fd) {f1 f2 : Addr} {fd1 fd2 : FuncData} (C1 : Cal P w K mg base CX0 1 "check_plan" ["value"] (spCkP K C) f1 fd1) (C2 : Cal P w K mg base CX0 3 "plan_key" ["plan"] (spPk K C) f2 fd2) : FnOk P w K mg base CX0 4 f fd ["self", "other"] (spCb K C) := by
  obtain ⟨gcheck_plan, kcheck_plan, bcheck_plan, Fcheck_plan⟩ := C1
  obtain ⟨gplan_key, kplan_key, bplan_key, Fplan_key⟩ := C2
  refine F.ok sc_cb (fun vs H Q E h => ?_) (fun cdv A outer s H vs Q E hr h => ?_)
  · obtain ⟨_, _, _, _, _, _, _, _, _, _, rfl, _⟩ := h
    rfl
  · obtain ⟨r, b, z, z', ks, ks', ls, ls', l, l', rfl, pa, pb, k⟩ := h
    have nd := sc_cb.nd
    refine ⟨_, (pss_cons (ps_expr (pe_call Fcheck_plan (hr.mono (by omega)) rfl gcheck_plan kcheck_plan bcheck_plan .nil pass0 (pa_cons (pv 1) pa_nil)))
        (pss_one (ps_ret (pe_cmpR (Ol.op_ltD hr.units) (pe_call Fplan_key (hr.mono (by omega)) rfl gplan_key kplan_key bplan_key .nil pass0 (pa_cons (pv 0) pa_nil)) (pe_call Fplan_key (hr.mono (by omega)) rfl gplan_key kplan_key bplan_key .nil pass0 (pa_cons (pv 1) pa_nil)) (nomark _))))), ?_⟩
    refine sq fun U hU => ?_
    walk_at "rd"
    refine ⟨b, z', ks', ls', l', rfl, pb, hU _ _ ?_⟩
    clear hU
    walk_at "rd"
    refine ⟨r, z, ks, ls, l, rfl, pa, fun t1 H1 s1 d1 => ⟨b, z', ks', ls', l', rfl, pb.up s1, fun t2 H2 s2 d2 => ?_⟩⟩
    refine ⟨_, _, Dp.up s2 _ _ d1, d2, ?_, (fun e => by cases e), ?_, k H2 (s1.trans s2)⟩
    · unfold dPk dLs
      simp only [alike, alikeAll, Ol.alike_ints]
      rfl
    · exact dPk_depth z ls l
end
end
end K10

set_option Elab.async false
set_option linter.all false
set_option maxRecDepth 100000
set_option maxHeartbeats 4000000
namespace K10
open PySem PySem.Spec PyProof.Rows L2 Rd Dt Dq Pk Ln En Sx Sy So Sr Lk Rq
local macro_rules | `(tactic| walk_at "rd") => `(tactic| try simp only [↓Lk.tLockE_, ↓Lk.tLock_, ↓Lk.tLc_keys, ↓Lk.tFor_keys, ↓Sy.tTupP_, ↓Sy.rTupP_, ↓Sy.rCatP_, ↓Sy.rSlP_, ↓Sy.rDictT_, ↓Sy.tDGet_, ↓Sy.tDGet1_, ↓Sy.tDIn_, ↓Sy.tDNotIn_, ↓Sy.tMeth_, ↓Sy.tMethKw_, ↓Sy.rSortedS_, ↓Sx.rIsT_, ↓En.tFor_enumT, ↓Sy.tFor_enumL, ↓Rv.tMakeKw_, ↓Prp.tProp_, ↓Lo.tBits_, ↓Lo.tJs_n, ↓Lo.tJs_c, ↓Lo.tFmt_, ↓Lo.gFld_, ↓Lo.tMake_, ↓Lo.rOwn_, ↓Rg.tFor_range3, ↓Rg.tLc_range3, ↓Rg.tLstC_, ↓Rg.tLc_rngV, ↓Le.rNeLE_, ↓Le.rEqLE_, ↓Ls.tLc_str, ↓Ls.sDPut_, ↓Rl.rReprL_, ↓Rl.tCallKS_, ↓Ob.tFld_, ↓Ob.sFld_, ↓tVar_, ↓tC_, ↓tM1, ↓tDNewK_, ↓tOp_, ↓tUn_, ↓rI_, ↓rI0_, ↓rU_, ↓eq_ii, ↓ne_ii, ↓eq_ss, ↓ne_ss, ↓eq_bb, ↓ne_bb, ↓tAndV_, ↓tOrV_, ↓tNotV_, ↓tIf_, ↓tTest_, ↓tB_, ↓tAnd_, ↓tOr_, ↓tNot_, ↓tChain_, ↓tNil_, ↓tCons_, ↓tTup_, ↓tLst_, ↓tCB_, ↓tCall_, ↓tSeq_, ↓tNext_, ↓tRet_, ↓tRetN_, ↓tDrop_, ↓tBreak_, ↓tNever_, ↓tIfS_, ↓tAsg_, ↓gName_, ↓gTup_, ↓gCons_, ↓gNil_, ↓gSub_, ↓tPar_, ↓tPar3_, ↓tSl_, ↓tNoPart_, ↓tPart_, ↓tBM_, ↓tFor_range1, ↓tFor_range2, ↓tFor_list, ↓tFor_tup, L2.start, List.headD_cons, List.headD_nil, List.tail_cons, List.map_cons, List.map_nil, List.length_cons, List.length_nil, List.replicate, List.append_nil, List.nil_append, List.cons_append, List.getElem?_cons_zero, List.getElem?_cons_succ, List.set_cons_zero, List.set_cons_succ, Option.some.injEq, V.int.injEq, V.bl.injEq, V.str.injEq, V.ref.injEq, exists_eq_left, exists_eq_left', exists_eq_right, exists_eq, exists_and_left, and_true, true_and, decide_eq_true_eq, Nat.reduceAdd, Nat.reduceSub, Nat.add_zero, Nat.zero_add, List.cons.injEq, Bool.not_eq_true', decide_eq_false_iff_not, eq_self, reduceCtorEq, Bool.false_eq_true, if_true, if_false, ite_true, ite_false, and_self, ↓tLc_range1, ↓tLc_range2, ↓tLc_list, ↓tLc_tup, ↓tYes_, wipe0, wipe1, ↓tCallS_, ↓rIxL_, ↓rIxT_, ↓rSlL_, ↓rCat_, ↓rSetL_, ↓rRep_, ↓rGcd_, ↓tCallK_, ↓gUnl_, ↓tRaise_, decide_true, decide_false, not_true_eq_false, not_false_eq_true, false_and, or_false, false_or, and_false, and_assoc, exists_const, forall_const, forall_eq'])


section
variable {P : Program} {w : World} {K : PySem.W.Frag} {mg : Str → Option Value} {base : Heap}
/-! ### number_in, up to far -/
open Kp
theorem numL_hd : ∀ (n : Nat), 10 ≤ n → (TL.numL n)[0]? ≠ some 48 := fun n => by
  induction n using Nat.strongRecOn with
  | _ n ih =>
    intro h
    rw [TL.numL_step h]
    by_cases q : n / 10 < 10
    · rw [TL.numL_lt q]
      have : 1 ≤ n / 10 := by omega
      intro z
      have z : some (48 + n / 10) = some 48 := z
      injection z with z
      omega
    · have i := ih (n / 10) (by omega) (by omega)
      have n0 := List.length_pos_iff.mpr (TL.numL_ne (n / 10))
      rw [List.getElem?_append_left n0]
      exact i
theorem far_len : (Str.ofString (toString ((far : Nat) : Int))).length = 31 := by decide +kernel
theorem intT_at {n : Nat} (h : n ≤ far) : 1 ≤ (intT n).length ∧ (intT n).length ≤ 31 ∧ intText? (intT n) = some (n : Int) ∧ (∀ c ∈ (intT n).cps.toList, 48 ≤ c ∧ c ≤ 57) ∧ ((intT n).length = 1 ∨ (intT n).cps.toList[0]? ≠ some 48) := by
  have e : (intT n).cps.toList = TL.numL n := TL.tl_num n
  have el : (intT n).length = (TL.numL n).length := by rw [← e]; exact Array.length_toList.symm
  have l31 : (TL.numL n).length ≤ 31 := TL.numL_len (by decide) (Nat.lt_of_le_of_lt h (by decide))
  refine ⟨by rw [el]; exact List.length_pos_iff.mpr (TL.numL_ne n), by rw [el]; exact l31, TL.int_num (by omega), by rw [e]; exact TL.numL_digits n, ?_⟩
  by_cases q : n < 10
  · left
    rw [el, TL.numL_lt q]
    rfl
  · right
    rw [e]
    exact numL_hd n (by omega)
def spNumB : Sp := fun vs H Q _ => ∃ n : Nat, vs = [.str (intT n), .int (far : Nat)] ∧ n ≤ far ∧ ∀ H', Same H H' → Q (.int (n : Nat)) H'
theorem sc_nib : FnScope ["word", "high", "sign"] ["word", "high"] (defScope (top 18)) := ⟨rfl, rfl, rfl, by decide +kernel, rfl, by decide +kernel, by decide +kernel⟩
theorem ok_nib {f : Addr} {fd : FuncData} (T : Tx mg) (F : FD K "number_in" (top 18) f fd) : FnOk P w K mg base CX0 1 f fd ["word", "high"] spNumB := by
  refine F.ok sc_nib (fun vs H Q E h => ?_) (fun cdv A outer s H vs Q E hr h => ?_)
  · obtain ⟨_, rfl, _⟩ := h
    rfl
  · obtain ⟨n, rfl, hn, k⟩ := h
    have nd := sc_nib.nd
    have zl : (400000 : Nat) ≤ sizeLine := by rw [sizeLine_eq]; decide
    obtain ⟨a0, a1, a2, a3, a4⟩ := intT_at hn
    obtain ⟨tf, hFIG⟩ := T.figs
    have ne : ¬ intT n = Str.ofString "" := fun z => by
      rw [z] at a0
      have e : (Str.ofString "").length = 0 := by decide
      omega
    have flog : ((far : Nat) : Int).natAbs.log2 < 1920 := by decide
    refine ⟨_, (pss_cons (ps_if (PW.pt (pw_or (pt_cmpR op_eq (pv 0) pe_str (nomark _)) (pw_or (pt_cmpR op_gt (pe_callB call_len_str (by rfl) T.b_len PySem.boot_len (pa_cons (pv 0) pa_nil)) (pe_callB call_len_str (by rfl) T.b_len PySem.boot_len (pa_cons (pe_callTy call_str_int (by rfl) T.b_str (by decide +kernel) (pa_cons (pv 1) pa_nil)) pa_nil)) (nomark _)) (pw_or1 (pt_cmpR (Le.op_neLEK (K := K) rfl hr.units) (pe_lc (own := [("sign", 2)]) rfl nd (pi_str (pv 0)) (blkOk_by (N := ["word", "high", "sign"]) (sc := defScope (top 18)) (by decide +kernel)) (fun _ _ _ _ _ => (pg_name (i := 2) nd rfl (Or.inl rfl))) (fun _ _ _ _ _ => (pts_one (pt_cmpR op_notIn_sign (pv 2) (pe_glob (v := .str fig) rfl hFIG ⟨_, rfl⟩) rfl))) (fun _ _ _ _ _ => (pv 2))) (pe_lst pa_nil) (nomark _)))))) (pss_one (ps_ret pe_non)) pss_nil)
        (pss_cons (ps_if (PW.pt (pw_or (PW.pt (pw_and (pt_cmpR op_eq (pe_item_str (pv 0) pe_int (fun _ _ => rfl)) pe_str (nomark _)) (pw_and1 (pt_cmpR op_gt (pe_callB call_len_str (by rfl) T.b_len PySem.boot_len (pa_cons (pv 0) pa_nil)) pe_int (nomark _))))) (pw_or1 (pt_cmpR op_gt (pe_callTy call_int_str (by rfl) T.b_int (by decide +kernel) (pa_cons (pv 0) pa_nil)) (pv 1) (nomark _))))) (pss_one (ps_ret pe_non)) pss_nil)
        (pss_one (ps_ret (pe_callTy call_int_str (by rfl) T.b_int (by decide +kernel) (pa_cons (pv 0) pa_nil)))))), ?_⟩
    refine sq fun U hU => ?_
    walk_at "rd"
    rw [if_neg ne]
    refine ⟨by omega, flog, by rw [far_len]; omega, ?_⟩
    rw [far_len, if_neg (by omega)]
    refine Ls.lc_s (niP H) fun D hD => ⟨⟨same_new hD, upd_same⟩, ?_, ?_⟩
    · rintro i c H' hc ⟨hs, hL⟩
      have hm := a3 c (List.mem_of_getElem? hc)
      unfold Lturn
      walk_at "rd"
      refine ⟨c, rfl, ?_⟩
      rw [if_neg (fun z => z (fig_has hm.1 hm.2))]
      exact ⟨hs, hL⟩
    rintro H3 ⟨hs3, hL3⟩
    refine ⟨by decide, fun p hp => ⟨D, rfl, [], SqL.of (same_new hp _ _ hL3), SqL.of upd_same, ?_⟩⟩
    rw [if_neg (by simp)]
    refine hU _ _ ?_
    clear hU
    have s4 := hs3.trans (same_new (o := .lst []) hp)
    generalize upd H3 p (.lst []) = H4 at s4 ⊢
    refine sq fun U hU => ?_
    walk_at "rd"
    have l0 : 0 < (intT n).cps.size := a0
    have fin : ∃ x, intText? (intT n) = some x ∧ (intT n).length ≤ 640 ∧ if ((far : Nat) : Int) < x then Q V.non H4 else U [some (V.str (intT n)), some (V.int ((far : Nat) : Int)), none] H4 := by
      refine ⟨_, a2, by omega, ?_⟩
      rw [if_neg (by omega)]
      refine hU _ _ ?_
      walk_at "rd"
      exact ⟨_, a2, by omega, k _ s4⟩
    refine ⟨by omega, by decide, by omega, (intT n).cps[0], Array.getElem?_eq_getElem l0, ?_⟩
    by_cases c : (⟨#[(intT n).cps[0]]⟩ : Str) = Str.ofString "0"
    · rw [if_pos c]
      refine ⟨by omega, ?_⟩
      rcases a4 with a4 | a4
      · rw [if_neg (by omega)]
        exact fin
      · exfalso
        refine a4 ?_
        rw [Array.getElem?_toList, Array.getElem?_eq_getElem l0]
        have e : (Str.ofString "0") = ⟨#[48]⟩ := by decide +kernel
        rw [e] at c
        injection c with c
        have := congrArg (fun z => z[0]?) c
        simpa using this
    · rw [if_neg c]
      exact fin
end
end K10

set_option Elab.async false
set_option linter.all false
set_option maxRecDepth 100000
set_option maxHeartbeats 4000000
namespace K10
open PySem PySem.Spec PyProof.Rows L2 Rd Dt Dq Pk Ln En Sx Sy So Sr Lk Rq
local macro_rules | `(tactic| walk_at "rd") => `(tactic| try simp only [↓Lk.tLockE_, ↓Lk.tLock_, ↓Lk.tLc_keys, ↓Lk.tFor_keys, ↓Sy.tTupP_, ↓Sy.rTupP_, ↓Sy.rCatP_, ↓Sy.rSlP_, ↓Sy.rDictT_, ↓Sy.tDGet_, ↓Sy.tDGet1_, ↓Sy.tDIn_, ↓Sy.tDNotIn_, ↓Sy.tMeth_, ↓Sy.tMethKw_, ↓Sy.rSortedS_, ↓Sx.rIsT_, ↓En.tFor_enumT, ↓Sy.tFor_enumL, ↓Rv.tMakeKw_, ↓Prp.tProp_, ↓Lo.tBits_, ↓Lo.tJs_n, ↓Lo.tJs_c, ↓Lo.tFmt_, ↓Lo.gFld_, ↓Lo.tMake_, ↓Lo.rOwn_, ↓Rg.tFor_range3, ↓Rg.tLc_range3, ↓Rg.tLstC_, ↓Rg.tLc_rngV, ↓Le.rNeLE_, ↓Le.rEqLE_, ↓Ls.tLc_str, ↓Ls.sDPut_, ↓Rl.rReprL_, ↓Rl.tCallKS_, ↓Ob.tFld_, ↓Ob.sFld_, ↓tVar_, ↓tC_, ↓tM1, ↓tDNewK_, ↓tOp_, ↓tUn_, ↓rI_, ↓rI0_, ↓rU_, ↓eq_ii, ↓ne_ii, ↓eq_ss, ↓ne_ss, ↓eq_bb, ↓ne_bb, ↓tAndV_, ↓tOrV_, ↓tNotV_, ↓tIf_, ↓tTest_, ↓tB_, ↓tAnd_, ↓tOr_, ↓tNot_, ↓tChain_, ↓tNil_, ↓tCons_, ↓tTup_, ↓tLst_, ↓tCB_, ↓tCall_, ↓tSeq_, ↓tNext_, ↓tRet_, ↓tRetN_, ↓tDrop_, ↓tBreak_, ↓tNever_, ↓tIfS_, ↓tAsg_, ↓gName_, ↓gTup_, ↓gCons_, ↓gNil_, ↓gSub_, ↓tPar_, ↓tPar3_, ↓tSl_, ↓tNoPart_, ↓tPart_, ↓tBM_, ↓tFor_range1, ↓tFor_range2, ↓tFor_list, ↓tFor_tup, L2.start, List.headD_cons, List.headD_nil, List.tail_cons, List.map_cons, List.map_nil, List.length_cons, List.length_nil, List.replicate, List.append_nil, List.nil_append, List.cons_append, List.getElem?_cons_zero, List.getElem?_cons_succ, List.set_cons_zero, List.set_cons_succ, Option.some.injEq, V.int.injEq, V.bl.injEq, V.str.injEq, V.ref.injEq, exists_eq_left, exists_eq_left', exists_eq_right, exists_eq, exists_and_left, and_true, true_and, decide_eq_true_eq, Nat.reduceAdd, Nat.reduceSub, Nat.add_zero, Nat.zero_add, List.cons.injEq, Bool.not_eq_true', decide_eq_false_iff_not, eq_self, reduceCtorEq, Bool.false_eq_true, if_true, if_false, ite_true, ite_false, and_self, ↓tLc_range1, ↓tLc_range2, ↓tLc_list, ↓tLc_tup, ↓tYes_, wipe0, wipe1, ↓tCallS_, ↓rIxL_, ↓rIxT_, ↓rSlL_, ↓rCat_, ↓rSetL_, ↓rRep_, ↓rGcd_, ↓tCallK_, ↓gUnl_, ↓tRaise_, decide_true, decide_false, not_true_eq_false, not_false_eq_true, false_and, or_false, false_or, and_false, and_assoc, exists_const, forall_const, forall_eq'])


section
variable {P : Program} {w : World} {K : PySem.W.Frag} {mg : Str → Option Value} {base : Heap}
/-! ### plan_in, read_plan -/
open Kp TL
theorem split_bar3 {a b c : Str} (ha : 124 ∉ tl a) (hb : 124 ∉ tl b) (hc : 124 ∉ tl c) : Txt.split (a ++ " | " ++ b ++ " | " ++ c) " | " = [a, b, c] := by
  refine map_tl_inj ?_
  rw [split_spl _ _ (by rw [tl_bar]; simp) (kind_ok (by decide +kernel)), tl_append, tl_append, tl_append, tl_append, tl_bar]
  have one : ∀ (p : List Nat) (i : Nat) (r : List Nat), 124 ∉ p → i < p.length → ((p ++ (32 :: r)).drop i)[1]? ≠ some 124 := fun p i r hp hi z => by
    rw [List.getElem?_drop] at z
    by_cases c : i + 1 < p.length
    · rw [List.getElem?_append_left c] at z
      exact hp (List.mem_of_getElem? z)
    · rw [List.getElem?_append_right (by omega), show i + 1 - p.length = 0 by omega] at z
      simp at z
  have e : tl a ++ [32, 124, 32] ++ tl b ++ [32, 124, 32] ++ tl c = tl a ++ ([32, 124, 32] ++ (tl b ++ ([32, 124, 32] ++ tl c))) := by simp
  rw [e, spl_part (by simp) (fun i hi => pre_second (one _ i _ ha hi)), spl_part (by simp) (fun i hi => pre_second (one _ i _ hb hi)), spl_last (fun i hi => pre_second fun z => hc ?_)]
  · simp
  · rw [List.getElem?_drop] at z
    exact List.mem_of_getElem? z
theorem allK_sg : ∀ {ws : List Str} {ks : List Kn}, allK ws = some ks → ∀ k ∈ ks, k.sg ∈ [46, 33, 62]
  | [], ks, h => by
    cases h
    exact fun k h => by cases h
  | w :: ws, ks, h => by
    unfold allK at h
    cases e : kwF w with
    | none => rw [e] at h; cases h
    | some k =>
      rw [e] at h
      have h : (allK ws).map (fun ks => k :: ks) = some ks := h
      obtain ⟨ks', e2, rfl⟩ := Option.map_eq_some_iff.mp h
      intro x hx
      rcases List.mem_cons.mp hx with rfl | hx
      · unfold kwF at e
        cases c : cutL w with
        | nil => rw [c] at e; cases e
        | cons c0 cl =>
          rw [c] at e
          have e : (if badW w c0 then none else some (knO w c0)) = some x := e
          by_cases b : badW w c0
          · rw [if_pos b] at e; cases e
          · rw [if_neg b] at e
            cases e
            exact (cutL_cons c).2
      · exact allK_sg e2 x hx
theorem int_no {n s : Nat} (h : s < 48 ∨ 57 < s) : s ∉ tl (intT n) := by
  have e : tl (intT n) = numL n := tl_num n
  rw [e]
  exact numL_free h
theorem sh_no {z : Str} {ks : List Kn} (h : ShOk z ks) : 124 ∉ tl z := by
  rw [← h.tx]
  refine join_no (by decide +kernel) fun w hw => ?_
  obtain ⟨k, hk, rfl⟩ := List.mem_map.mp hw
  unfold wdK
  rw [tl_append, tl_append]
  intro q
  rcases List.mem_append.mp q with q | q
  · rcases List.mem_append.mp q with q | q
    · split at q
      · revert q; decide +kernel
      · have q : 124 ∈ (strOfL (srtN k.nm.cps.toList)).cps.toList := q
        unfold strOfL at q
        rw [List.toList_toArray] at q
        have := h.rt.lo 124 ((ltr_sub hk).mem ((srtN_perm _).mem_iff.mp q))
        omega
    · have q : 124 ∈ [k.sg] := q
      have := allK_sg h.kin k hk
      rw [← List.mem_singleton.mp q] at this
      simp at this
  · split at q
    · exact int_no (by omega) q
    · revert q; decide +kernel
theorem len_no (ls : List Nat) : 124 ∉ tl (lenT ls) := by
  unfold lenT
  split
  · decide +kernel
  · refine join_no (by decide +kernel) fun w hw => ?_
    obtain ⟨n, _, rfl⟩ := List.mem_map.mp hw
    exact int_no (by omega)
theorem len_split {ls : List Nat} (h : ls ≠ []) : lenT ls ≠ "none" ∧ Txt.split (lenT ls) " " = ls.map fun l => intT l := by
  have e : lenT ls = Txt.join " " (ls.map fun l => intT l) := by unfold lenT; rw [if_neg h]
  have sp : Txt.split (lenT ls) " " = ls.map fun l => intT l := by
    rw [e]
    refine split_join tl_spc (by decide +kernel) (fun z => h (List.map_eq_nil_iff.mp z)) fun p hp => ?_
    obtain ⟨n, _, rfl⟩ := List.mem_map.mp hp
    exact int_no (by omega)
  refine ⟨fun z => ?_, sp⟩
  rw [z] at sp
  have e2 : Txt.split (Txt.join " " [Str.ofString "none"]) " " = [Str.ofString "none"] := split_join tl_spc (by decide +kernel) (by simp) (fun p hp => by rw [List.mem_singleton.mp hp]; decide +kernel)
  have e3 : Txt.join " " [Str.ofString "none"] = "none" := by rw [join_eq]; rfl
  rw [e3] at e2
  rw [e2] at sp
  cases ls with
  | nil => exact h rfl
  | cons n ls =>
    injection sp with s1 s2
    have := int_no (n := n) (s := 110) (by omega)
    have s1 : Str.ofString "none" = intT n := s1
    rw [← s1] at this
    revert this
    decide +kernel
theorem make_same {H H2 : Hp} {x dx : Addr} {o o2 : HO} (h1 : H x = none) (h2 : H dx = none) (b : But x (upd (upd H dx o) x o2) H2) : Same H H2 := fun a v e => by
  have n1 : a ≠ x := fun z => by rw [z, h1] at e; cases e
  have n2 : a ≠ dx := fun z => by rw [z, h2] at e; cases e
  exact b a v n1 (by rw [upd_ne n1, upd_ne n2]; exact e)
def spPn (K : PySem.W.Frag) (C : Addr) : Sp := fun vs H Q _ => ∃ (z : Str) (ks : List Kn) (ls : List Nat) (l : Nat), vs = [.str (z ++ " | " ++ lenT ls ++ " | " ++ intT l)] ∧ PlOk z ks ls l ∧ ls.length ≤ 1000 ∧ ∀ r H', Same H H' → PlA K C H' r z ks ls l → Q (.ref r) H'
theorem sc_pn : FnScope ["text", "parts", "lengths", "lost", "knots", "word", "knot"] ["text"] (defScope (top 27)) := ⟨rfl, rfl, rfl, by decide +kernel, rfl, by decide +kernel, by decide +kernel⟩
theorem ok_pn {f C fi : Addr} {fd fdi : FuncData} (T : Tx mg) (W : PlB K C) (L : PlM K mg C fi) (F_init : FnOk P w K mg base CX0 3 fi fdi ["self", "shape", "lengths", "lost"] (spPI K C)) (b_init : Binds K fdi ["self", "shape", "lengths", "lost"] [])
    (F : FD K "plan_in" (top 27) f fd) {f1 f2 : Addr} {fd1 fd2 : FuncData} (C1 : Cal P w K mg base CX0 2 "shape_knots" ["value"] spSh f1 fd1) (C2 : Cal P w K mg base CX0 1 "number_in" ["word", "high"] spNumB f2 fd2) : FnOk P w K mg base CX0 5 f fd ["text"] (spPn K C) := by
  obtain ⟨gshape_knots, kshape_knots, bshape_knots, Fshape_knots⟩ := C1
  obtain ⟨gnumber_in, knumber_in, bnumber_in, Fnumber_in⟩ := C2
  refine F.ok sc_pn (fun vs H Q E h => ?_) (fun cdv A outer s H vs Q E hr h => ?_)
  · obtain ⟨_, _, _, _, rfl, _⟩ := h
    rfl
  · obtain ⟨z, ks, ls, l, rfl, ok, l1000, k⟩ := h
    have nd := sc_pn.nd
    have zl : (1000000 : Nat) ≤ sizeLine := line_big
    obtain ⟨tfr, hFAR⟩ := T.far
    refine ⟨_, (pss_cons (ps_set (i := 1) nd rfl (Or.inl rfl) (pe_split (pv 0) pe_str))
        (pss_cons (ps_if (pt_cmpR op_ne (pe_callB (Ck.call_lenK (K := K) rfl) (by rfl) T.b_len PySem.boot_len (pa_cons (pv 1) pa_nil)) pe_int (nomark _)) (pss_one (ps_ret pe_non)) pss_nil)
        (pss_cons (ps_set (i := 2) nd rfl (Or.inl rfl) (pe_ifExp (pt_cmpR op_eq (pe_ix (r := rIxL K) ix_list (pv 1) pe_int (fun _ _ => rfl)) pe_str (nomark _)) (pe_lst pa_nil) (pe_lc (own := [("word", 5)]) rfl nd (pi_list (pe_split (pe_ix (r := rIxL K) ix_list (pv 1) pe_int (fun _ _ => rfl)) pe_str)) (blkOk_by (N := ["text", "parts", "lengths", "lost", "knots", "word", "knot"]) (sc := defScope (top 27)) (by decide +kernel)) (fun _ _ _ _ _ => (pg_name (i := 5) nd rfl (Or.inl rfl))) (fun _ _ _ _ _ => pts_nil) (fun _ _ _ _ _ => (pe_call Fnumber_in (hr.mono (by omega)) rfl gnumber_in knumber_in bnumber_in .nil pass0 (pa_cons (pv 5) (pa_cons (pe_glob (v := .int 1000000000000000000000000000000) rfl hFAR ⟨_, rfl⟩) pa_nil)))))))
        (pss_cons (ps_set (i := 3) nd rfl (Or.inl rfl) (pe_call Fnumber_in (hr.mono (by omega)) rfl gnumber_in knumber_in bnumber_in .nil pass0 (pa_cons (pe_ix (r := rIxL K) ix_list (pv 1) pe_int (fun _ _ => rfl)) (pa_cons (pe_glob (v := .int 1000000000000000000000000000000) rfl hFAR ⟨_, rfl⟩) pa_nil))))
        (pss_cons (ps_if (PW.pt (pw_or (pt_cmpR (Ls.op_in_seqK (K := K) rfl) pe_non (pv 2) rfl) (pw_or (pt_cmpR op_isN (pv 3) pe_non (nomark _)) (pw_or1 (pt_cmpR (Ls.op_in_seqK (K := K) rfl) pe_int (pv 2) rfl))))) (pss_one (ps_ret pe_non)) pss_nil)
        (pss_cons (ps_set (i := 4) nd rfl (Or.inl rfl) (pe_call Fshape_knots (hr.mono (by omega)) rfl gshape_knots kshape_knots bshape_knots .nil pass0 (pa_cons (pe_ix (r := rIxL K) ix_list (pv 1) pe_int (fun _ _ => rfl)) pa_nil)))
        (pss_cons (ps_if (PW.pt (pw_or (pt_cmpR op_isN (pv 4) pe_non (nomark _)) (pw_or1 (pt_cmpR op_ne (pe_callB (Ck.call_lenK (K := K) rfl) (by rfl) T.b_len PySem.boot_len (pa_cons (pe_lc (own := [("knot", 6)]) rfl nd (pi_list (pv 4)) (blkOk_by (N := ["text", "parts", "lengths", "lost", "knots", "word", "knot"]) (sc := defScope (top 27)) (by decide +kernel)) (fun _ _ _ _ _ => (pg_name (i := 6) nd rfl (Or.inl rfl))) (fun _ _ _ _ _ => (pts_one (pt_cmpR op_eq (pe_ix (r := rIxL K) ix_list (pv 6) pe_int (fun _ _ => rfl)) pe_str (nomark _)))) (fun _ _ _ _ _ => (pv 6))) pa_nil)) (pe_callB (Ck.call_lenK (K := K) rfl) (by rfl) T.b_len PySem.boot_len (pa_cons (pv 2) pa_nil)) (nomark _))))) (pss_one (ps_ret pe_non)) pss_nil)
        (pss_one (ps_ret (pe_make L.mkr F_init (hr.mono (by omega)) rfl L.g b_init .nil pass0 (pa_cons (pe_ix (r := rIxL K) ix_list (pv 1) pe_int (fun _ _ => rfl)) (pa_cons (pe_callTy (En.call_tupP (K := K) rfl) (by rfl) T.b_tuple (by decide +kernel) (pa_cons (pv 2) pa_nil)) (pa_cons (pv 3) pa_nil))))))))))))), ?_⟩
    refine sq fun U hU => ?_
    walk_at "rd"
    have lt_ : (lenT ls).length ≤ 132000 := by
      unfold lenT
      split
      · decide
      · have := join_len (y := " ") (ws := ls.map fun l => intT l) (m := 130) (fun w hw => by
          obtain ⟨n, hn, rfl⟩ := List.mem_map.mp hw
          exact intT_len (Nat.lt_of_le_of_lt (ok.b n hn).2 (by decide)))
        have s1b : (" ":Str).length = 1 := by decide
        rw [List.length_map, s1b] at this
        omega
    have l130 : (intT l).length ≤ 130 := intT_len (Nat.lt_of_le_of_lt ok.lb (by decide))
    have zl4 := ok.sok.1
    have sb : (" | ":Str).length = 3 := by decide
    refine ⟨⟨_, rfl⟩, by decide, by rw [Str.length_append, Str.length_append, Str.length_append, Str.length_append, sb]; omega, fun q hq => ?_⟩
    rw [split_bar3 (sh_no ok.sh) (len_no ls) (int_no (by omega))]
    refine hU _ _ ?_
    clear hU
    have s1 : Same H (upd H q (.lst ([z, lenT ls, intT l].map V.str))) := same_new hq
    have hq1 : upd H q (.lst ([z, lenT ls, intT l].map V.str)) q = some (.lst [.str z, .str (lenT ls), .str (intT l)]) := upd_same
    generalize upd H q (.lst ([z, lenT ls, intT l].map V.str)) = H1 at s1 hq1 ⊢
    refine sq fun U hU => ?_
    walk_at "rd"
    refine ⟨_, .inl (SqL.of hq1), ?_⟩
    rw [if_neg (by simp)]
    refine hU _ _ ?_
    clear hU
    refine sq fun U hU => ?_
    walk_at "rd"
    refine ⟨_, SqL.of hq1, V.str (lenT ls), rfl, ?_⟩
    have fe : ((far : Nat) : Int) = 1000000000000000000000000000000 := by decide
    suffices fin : ∀ (D : Addr) (H2 : Hp), Same H1 H2 → H2 D = some (.lst (ls.map fun l => V.int (l : Nat))) → U [some (V.str (z ++ Str.ofString " | " ++ lenT ls ++ Str.ofString " | " ++ intT l)), some (V.ref q), some (V.ref D), none, none, none, none] H2 by
      simp only [eq_ss]
      refine ⟨_, rfl, ?_⟩
      by_cases c : ls = []
      · rw [if_pos (decide_eq_true (by unfold lenT; rw [if_pos c]))]
        subst c
        exact ⟨by omega, fun p hp => fin p _ (same_new hp) upd_same⟩
      · obtain ⟨c1, c2⟩ := len_split c
        rw [if_neg (by rw [decide_eq_false (by exact c1)]; decide)]
        refine ⟨_, SqL.of hq1, V.str (lenT ls), rfl, ⟨_, rfl⟩, _, rfl, by decide, by omega, fun w hw => ?_⟩
        rw [c2]
        have s2 := same_new (o := HO.lst ((ls.map fun l => intT l).map V.str)) hw
        have e2 : upd H1 w (.lst ((ls.map fun l => intT l).map V.str)) w = some (.lst ((ls.map fun l => intT l).map V.str)) := upd_same
        generalize upd H1 w (.lst ((ls.map fun l => intT l).map V.str)) = H2 at s2 e2 ⊢
        refine ⟨w, rfl, ⟨_, SqL.of e2⟩, lc_l (xs := (ls.map fun l => intT l).map V.str) (fun D j H' => Same H2 H' ∧ H' D = some (.lst ((ls.take j).map fun l => V.int (l : Nat)))) fun D hD => ⟨⟨same_new hD, upd_same⟩, fun j H' _ hP => SqL.of (hP.1 _ _ e2), ?_, ?_⟩⟩
        · rintro j x H3 hx ⟨s3, hD3⟩
          obtain ⟨x', hx', rfl⟩ := map_at hx
          obtain ⟨n, hn, rfl⟩ := map_at hx'
          have jl := (List.getElem?_eq_some_iff.mp hn).1
          unfold Lturn
          walk_at "rd"
          refine ⟨n, ?_, (ok.b n (List.mem_of_getElem? hn)).2, fun H4 s4 => ⟨_, s4 _ _ hD3, ?_, fun x o e => by rw [upd_ne (ne_of_none e hD)]; exact s4 _ _ (s3 _ _ e), ?_⟩⟩
          · rw [fe]
          · rw [List.length_map, List.length_take]
            omega
          · rw [upd_same, List.take_succ, hn, List.map_append]
            rfl
        rintro H3 ⟨s3, hD3⟩
        rw [List.length_map, List.length_map, List.take_length] at hD3
        exact fin D H3 (s2.trans s3) hD3
    intro D H2 s2 hD2
    refine hU _ _ ?_
    clear hU
    have hq2 := s2 _ _ hq1
    have s02 := s1.trans s2
    refine sq fun U hU => ?_
    walk_at "rd"
    refine ⟨_, SqL.of hq2, V.str (intT l), rfl, l, ?_, ok.lb, fun H3 s3 => hU _ _ ?_⟩
    · rw [fe]
    clear hU
    have hq3 := s3 _ _ hq2
    have hD3 := s3 _ _ hD2
    have s03 := s02.trans s3
    refine sq fun U hU => ?_
    walk_at "rd"
    have n0 : (0 : Nat) ∉ ls := fun h => by have := (ok.b 0 h).1; omega
    refine ⟨D, ls.map iW, rfl, .inl (SqL.of hD3), rfl, flat_W ls, ?_⟩
    rw [if_neg (by decide), show inV V.non (ls.map iW) = false from by
      unfold inV
      rw [List.any_map]
      exact List.any_eq_false.mpr fun x _ h => (by cases h)]
    refine ⟨_, rfl, ?_⟩
    rw [if_neg (by decide)]
    refine ⟨D, ls.map iW, rfl, .inl (SqL.of hD3), rfl, flat_W ls, ?_⟩
    rw [if_neg (by decide), show inV (V.int 0) (ls.map iW) = false from (inV_W 0 ls).trans (decide_eq_false n0)]
    refine ⟨_, rfl, ?_⟩
    rw [if_neg (by decide)]
    refine hU _ _ ?_
    clear hU
    refine sq fun U hU => ?_
    walk_at "rd"
    refine ⟨_, SqL.of hq3, V.str z, rfl, ?_⟩
    refine ⟨z, rfl, ok.sok, fun h => (by rw [shF_of ok.sh] at h; cases h), fun kr ks' H4 sh' s4 kr0 hk => hU _ _ ?_⟩
    clear hU
    obtain rfl : ks = ks' := by
      have := ok.sh.kin
      rw [sh'.kin] at this
      exact (Option.some.inj this).symm
    clear sh'
    obtain ⟨kl, ll4001, wf⟩ := kin_facts ok.sok ok.sh.kin
    obtain ⟨as, hka, kn⟩ := hk
    have hq4 := s4 _ _ hq3
    have hD4 := s4 _ _ hD3
    have s04 := s03.trans s4
    refine sq fun U hU => ?_
    walk_at "rd"
    refine ⟨⟨_, SqL.of hka⟩, lc_l (xs := as.map V.ref) (fun D' j H' => Same H4 H' ∧ ∃ xs : List V, H' D' = some (.lst xs) ∧ xs.length = ((ks.take j).filter fun k => decide (k.sg = 62)).length) fun D' hD' => ⟨⟨same_new hD', [], upd_same, rfl⟩, fun j H' _ hP => SqL.of (hP.1 _ _ hka), ?_, ?_⟩⟩
    · rintro j x H9 hx ⟨s9, xs, hD9, xl⟩
      obtain ⟨A, hA, rfl⟩ := map_at hx
      have il := (List.getElem?_eq_some_iff.mp hA).1
      obtain ⟨kk, hk⟩ : ∃ kk, ks[j]? = some kk := ⟨_, List.getElem?_eq_getElem (by rw [← kn.1]; exact il)⟩
      have eA : SqL K H9 A (knV kk) := SqL.of (s9 _ _ (kn.2 j A kk hA hk))
      have et : (ks.take (j + 1)).filter (fun k => decide (k.sg = 62)) = (ks.take j).filter (fun k => decide (k.sg = 62)) ++ (if kk.sg = 62 then [kk] else []) := by
        rw [List.take_succ, hk, List.filter_append]
        congr 1
        show [kk].filter _ = _
        rw [List.filter_cons, List.filter_nil]
        by_cases q : kk.sg = 62
        · rw [if_pos (decide_eq_true q), if_pos q]
        · rw [if_neg (by rw [decide_eq_false q]; decide), if_neg q]
      have esg : ((⟨#[kk.sg]⟩ : Str) = Str.ofString ">") ↔ kk.sg = 62 := by
        have e : (Str.ofString ">") = ⟨#[62]⟩ := by decide +kernel
        rw [e]
        exact ⟨fun h => by injection h with h; injection h with h; injection h, fun h => by rw [h]⟩
      unfold Lturn
      walk_at "rd"
      refine ⟨_, eA, _, rfl, ?_⟩
      simp only [eq_ss]
      refine ⟨_, rfl, ?_⟩
      by_cases q : kk.sg = 62
      · rw [if_pos (decide_eq_true (esg.mpr q))]
        refine ⟨_, hD9, ?_, fun x o e => by rw [upd_ne (ne_of_none e hD')]; exact s9 _ _ e, _, upd_same, by rw [List.length_append, xl, et, if_pos q, List.length_append]; rfl⟩
        rw [xl]
        have h1 := List.length_filter_le (fun k : Kn => decide (k.sg = 62)) (ks.take j)
        have h2 := List.length_take_le' j ks
        omega
      · rw [if_neg (by rw [decide_eq_false (fun h => q (esg.mp h))]; decide)]
        exact ⟨s9, xs, hD9, by rw [xl, et, if_neg q, List.append_nil]⟩
    rintro H9 ⟨s9, xs, hD9, xl⟩
    rw [List.length_map, kn.1, List.take_length] at xl
    have xl : xs.length = cellsK ks := xl
    have hD9' := s9 _ _ hD4
    refine ⟨D', rfl, xs, .inl (SqL.of hD9), _, .inl (SqL.of hD9'), ?_⟩
    rw [List.length_map, if_neg (fun h => h (by rw [xl, ok.len]))]
    have hq9 := s9 _ _ hq4
    have s09 := s04.trans s9
    clear hD9 xl
    refine hU _ _ ?_
    clear hU
    walk_at "rd"
    refine ⟨_, SqL.of hq9, V.str z, rfl, _, SqL.of hD9', fun A o hA po x dx hx hdx hne => ?_⟩
    have sA := same_new (o := HO.frz o (.tup (ls.map fun l => V.int (l : Nat)))) hA
    have eA : SqT K (upd H9 A (.frz o (.tup (ls.map fun l => V.int (l : Nat))))) A (ls.map fun l => V.int (l : Nat)) := .inl (.inr ⟨o, upd_same⟩)
    have s0A := s09.trans sA
    generalize upd H9 A (.frz o (.tup (ls.map fun l => V.int (l : Nat)))) = HA at sA eA s0A hx hdx ⊢
    have ms := fun (H4 : Hp) (b4 : But x (upd (upd HA dx (.own x)) x (.ins C dx [])) H4) => make_same hx hdx b4
    have sM : Same HA (upd (upd HA dx (.own x)) x (.ins C dx [])) := ms _ But.refl
    exact ⟨x, dx, A, z, ks, ls, l, rfl, upd_same, sqt_up sM eA, ok, fun H5 b5 pa => ⟨rfl, k x H5 (s0A.trans (ms H5 b5)) pa⟩⟩
/-- read_plan -/
theorem sc_rp : FnScope ["text", "found"] ["text"] (defScope (top 28)) := ⟨rfl, rfl, rfl, by decide +kernel, rfl, by decide +kernel, by decide +kernel⟩
theorem ok_rp {f C : Addr} {fd : FuncData} (T : Tx mg) (F : FD K "read_plan" (top 28) f fd) {f1 : Addr} {fd1 : FuncData} (C1 : Cal P w K mg base CX0 5 "plan_in" ["text"] (spPn K C) f1 fd1) : FnOk P w K mg base CX0 6 f fd ["text"] (spPn K C) := by
  obtain ⟨gplan_in, kplan_in, bplan_in, Fplan_in⟩ := C1
  refine F.ok sc_rp (fun vs H Q E h => ?_) (fun cdv A outer s H vs Q E hr h => ?_)
  · obtain ⟨_, _, _, _, rfl, _⟩ := h
    rfl
  · obtain ⟨z, ks, ls, l, rfl, ok, l1000, k⟩ := h
    have nd := sc_rp.nd
    refine ⟨_, (pss_cons (ps_set (i := 1) nd rfl (Or.inl rfl) (pe_ifExp (pt_val (pe_callB call_isi (by rfl) T.b_isinstance (by decide +kernel) (pa_cons (pv 0) (pa_cons (pe_bltn (v := .ty "str") rfl T.b_str (by decide +kernel) rfl) pa_nil)))) (pe_call Fplan_in (hr.mono (by omega)) rfl gplan_in kplan_in bplan_in .nil pass0 (pa_cons (pv 0) pa_nil)) pe_non))
        (pss_cons (ps_if (pt_cmpR op_isN (pv 1) pe_non (nomark _)) (pss_one ps_never) pss_nil)
        (pss_one (ps_ret (pv 1))))), ?_⟩
    refine sq fun U hU => ?_
    walk_at "rd"
    refine ⟨_, _, .type "str", .type "str", true, rfl, .ty _, .base (.str _), rfl, _, rfl, ?_⟩
    rw [if_pos rfl]
    refine ⟨z, ks, ls, l, rfl, ok, l1000, fun r H1 s1 st => hU _ _ ?_⟩
    clear hU
    walk_at "rd"
    exact k r H1 s1 st
end
end K10

set_option Elab.async false
set_option linter.all false
set_option maxRecDepth 100000
set_option maxHeartbeats 4000000
namespace K10
open PySem PySem.Spec PyProof.Rows L2 Rd Dt Dq Pk Ln En Sx Sy So Sr Lk Rq
local macro_rules | `(tactic| walk_at "rd") => `(tactic| try simp only [↓Lk.tLockE_, ↓Lk.tLock_, ↓Lk.tLc_keys, ↓Lk.tFor_keys, ↓Sy.tTupP_, ↓Sy.rTupP_, ↓Sy.rCatP_, ↓Sy.rSlP_, ↓Sy.rDictT_, ↓Sy.tDGet_, ↓Sy.tDGet1_, ↓Sy.tDIn_, ↓Sy.tDNotIn_, ↓Sy.tMeth_, ↓Sy.tMethKw_, ↓Sy.rSortedS_, ↓Sx.rIsT_, ↓En.tFor_enumT, ↓Sy.tFor_enumL, ↓Rv.tMakeKw_, ↓Prp.tProp_, ↓Lo.tBits_, ↓Lo.tJs_n, ↓Lo.tJs_c, ↓Lo.tFmt_, ↓Lo.gFld_, ↓Lo.tMake_, ↓Lo.rOwn_, ↓Rg.tFor_range3, ↓Rg.tLc_range3, ↓Rg.tLstC_, ↓Rg.tLc_rngV, ↓Le.rNeLE_, ↓Le.rEqLE_, ↓Ls.tLc_str, ↓Ls.sDPut_, ↓Rl.rReprL_, ↓Rl.tCallKS_, ↓Ob.tFld_, ↓Ob.sFld_, ↓tVar_, ↓tC_, ↓tM1, ↓tDNewK_, ↓tOp_, ↓tUn_, ↓rI_, ↓rI0_, ↓rU_, ↓eq_ii, ↓ne_ii, ↓eq_ss, ↓ne_ss, ↓eq_bb, ↓ne_bb, ↓tAndV_, ↓tOrV_, ↓tNotV_, ↓tIf_, ↓tTest_, ↓tB_, ↓tAnd_, ↓tOr_, ↓tNot_, ↓tChain_, ↓tNil_, ↓tCons_, ↓tTup_, ↓tLst_, ↓tCB_, ↓tCall_, ↓tSeq_, ↓tNext_, ↓tRet_, ↓tRetN_, ↓tDrop_, ↓tBreak_, ↓tNever_, ↓tIfS_, ↓tAsg_, ↓gName_, ↓gTup_, ↓gCons_, ↓gNil_, ↓gSub_, ↓tPar_, ↓tPar3_, ↓tSl_, ↓tNoPart_, ↓tPart_, ↓tBM_, ↓tFor_range1, ↓tFor_range2, ↓tFor_list, ↓tFor_tup, L2.start, List.headD_cons, List.headD_nil, List.tail_cons, List.map_cons, List.map_nil, List.length_cons, List.length_nil, List.replicate, List.append_nil, List.nil_append, List.cons_append, List.getElem?_cons_zero, List.getElem?_cons_succ, List.set_cons_zero, List.set_cons_succ, Option.some.injEq, V.int.injEq, V.bl.injEq, V.str.injEq, V.ref.injEq, exists_eq_left, exists_eq_left', exists_eq_right, exists_eq, exists_and_left, and_true, true_and, decide_eq_true_eq, Nat.reduceAdd, Nat.reduceSub, Nat.add_zero, Nat.zero_add, List.cons.injEq, Bool.not_eq_true', decide_eq_false_iff_not, eq_self, reduceCtorEq, Bool.false_eq_true, if_true, if_false, ite_true, ite_false, and_self, ↓tLc_range1, ↓tLc_range2, ↓tLc_list, ↓tLc_tup, ↓tYes_, wipe0, wipe1, ↓tCallS_, ↓rIxL_, ↓rIxT_, ↓rSlL_, ↓rCat_, ↓rSetL_, ↓rRep_, ↓rGcd_, ↓tCallK_, ↓gUnl_, ↓tRaise_, decide_true, decide_false, not_true_eq_false, not_false_eq_true, false_and, or_false, false_or, and_false, and_assoc, exists_const, forall_const, forall_eq'])


section
variable {P : Program} {w : World} {K : PySem.W.Frag} {mg : Str → Option Value} {base : Heap}
/-! ### words of a drawn store: plain -/
open Kp TL
/-- words that are a shape -/
structure WdOk (ws : List Str) (ks : List Kn) : Prop where
  n : ws.length ≤ 20
  l : ∀ w ∈ ws, w.length ≤ 100
  sok : SOk (Txt.join " " ws)
  sh : ShOk (Txt.join " " ws) ks
  sp : Txt.split (Txt.join " " ws) " " = ws
  c : (ws.filter cellW_).length = cellsK ks
section
variable {cs ns : List (Nat × Nat)} {R F : List Nat}
theorem StK.few (S : StK cs ns R F) : F.length ≤ cs.length + ns.length := by
  have rl : R.length ≤ cs.length := by
    refine Rq.few S.nd fun x hx => ?_
    rw [S.eR, mem_come] at hx
    obtain ⟨n, hn, m⟩ := hx
    obtain ⟨W, e, w⟩ := S.hw n hn
    rw [wayOf_eq w] at m
    exact w.ch.key x m
  have h2 := nodup_le (l := F) (m := R ++ ns.map fun n => (wayOf cs n.2).2) S.nodup fun x hx => by
    rw [S.eF] at hx
    obtain ⟨n, hn, m, _⟩ := mem_kn.mp hx
    rcases List.mem_append.mp m with m | m
    · exact List.mem_append_left _ (by rw [S.eR, mem_come]; exact ⟨n, hn, m⟩)
    · exact List.mem_append_right _ (List.mem_map.mpr ⟨n, hn, (List.mem_singleton.mp m).symm⟩)
  rw [List.length_append, List.length_map] at h2
  omega
theorem StK.cell (S : StK cs ns R F) (p : Nat) (l : F.length ≤ 99) : cellW_ (wdT cs ns F (nxF cs ns R) p) = decide (sgP cs p = 62) := by
  unfold cellW_
  rw [wd_tl, decide_eq_decide]
  constructor
  · intro h
    rcases List.mem_append.mp h with h | h
    · split at h
      · simp at h
      · have := nm_lo S.okn p 62 h
        omega
    · rcases List.mem_cons.mp h with h | h
      · exact h.symm
      · unfold rsB at h
        split at h
        · cases h
        · have := (numT_at (n := F.idxOf ((nxF cs ns R p).getD 0)) (Nat.le_trans List.idxOf_le_length (by omega))).2.2.1 62 h
          omega
  · intro h
    exact List.mem_append_right _ (by rw [h]; exact List.mem_cons_self ..)
theorem StK.wds (S : StK cs ns R F) (l : cs.length + ns.length ≤ 20) : WdOk (F.map (wdT cs ns F (nxF cs ns R))) (ksF cs ns R F) := by
  have fl := S.few
  have f99 : F.length ≤ 99 := by omega
  refine ⟨by rw [List.length_map]; omega, fun w hw => ?_, S.sok f99, S.ok f99, ?_, ?_⟩
  · obtain ⟨p, _, rfl⟩ := List.mem_map.mp hw
    exact Nat.le_trans (S.wsok f99 p).1 (by decide)
  · refine split_join tl_spc (by decide +kernel) (fun z => ?_) fun p hp => ?_
    · have e := List.map_eq_nil_iff.mp z
      have := S.rt.l1
      unfold ksF at this
      rw [e] at this
      simp [ltrs] at this
    · obtain ⟨x, hx, rfl⟩ := List.mem_map.mp hp
      intro z
      have z : (32 : Nat) ∈ (wdT cs ns F (nxF cs ns R) x).cps.toList := z
      rw [wd_tl] at z
      rcases List.mem_append.mp z with z | z
      · split at z
        · simp at z
        · have := nm_lo S.okn x 32 z; omega
      · rcases List.mem_cons.mp z with z | z
        · have := sgP_in (cs := cs) x
          rw [← z] at this
          simp at this
        · unfold rsB at z
          split at z
          · cases z
          · have := (numT_at (n := F.idxOf ((nxF cs ns R x).getD 0)) (Nat.le_trans List.idxOf_le_length (by omega))).2.2.1 32 z
            omega
  · unfold cellsK ksF
    rw [List.filter_map, List.filter_map, List.length_map, List.length_map]
    congr 1
    refine List.filter_congr fun p _ => ?_
    exact S.cell p f99
end
/-- a row: shape, lengths, lost -/
structure RwD where
  ws : List Str
  ks : List Kn
  ls : List Nat
  l : Nat
abbrev RwD.z (d : RwD) : Str := Txt.join " " d.ws
structure RwOk (d : RwD) : Prop where
  w : WdOk d.ws d.ks
  len : d.ls.length = cellsK d.ks
  b : ∀ x ∈ d.ls, 1 ≤ x ∧ x ≤ far
  lb : d.l ≤ far
theorem RwOk.pl {d : RwD} (h : RwOk d) : PlOk d.z d.ks d.ls d.l := ⟨h.w.sok, h.w.sh, h.len, h.b, h.lb⟩
theorem RwOk.l20 {d : RwD} (h : RwOk d) : d.ls.length ≤ 20 := by
  rw [h.len, ← h.w.c]
  exact Nat.le_trans (List.length_filter_le _ _) h.w.n
end
end K10

set_option Elab.async false
set_option linter.all false
set_option maxRecDepth 100000
set_option maxHeartbeats 4000000
namespace K10
open PySem PySem.Spec PyProof.Rows L2 Rd Dt Dq Pk Ln En Sx Sy So Sr Lk Rq
local macro_rules | `(tactic| walk_at "rd") => `(tactic| try simp only [↓Lk.tLockE_, ↓Lk.tLock_, ↓Lk.tLc_keys, ↓Lk.tFor_keys, ↓Sy.tTupP_, ↓Sy.rTupP_, ↓Sy.rCatP_, ↓Sy.rSlP_, ↓Sy.rDictT_, ↓Sy.tDGet_, ↓Sy.tDGet1_, ↓Sy.tDIn_, ↓Sy.tDNotIn_, ↓Sy.tMeth_, ↓Sy.tMethKw_, ↓Sy.rSortedS_, ↓Sx.rIsT_, ↓En.tFor_enumT, ↓Sy.tFor_enumL, ↓Rv.tMakeKw_, ↓Prp.tProp_, ↓Lo.tBits_, ↓Lo.tJs_n, ↓Lo.tJs_c, ↓Lo.tFmt_, ↓Lo.gFld_, ↓Lo.tMake_, ↓Lo.rOwn_, ↓Rg.tFor_range3, ↓Rg.tLc_range3, ↓Rg.tLstC_, ↓Rg.tLc_rngV, ↓Le.rNeLE_, ↓Le.rEqLE_, ↓Ls.tLc_str, ↓Ls.sDPut_, ↓Rl.rReprL_, ↓Rl.tCallKS_, ↓Ob.tFld_, ↓Ob.sFld_, ↓tVar_, ↓tC_, ↓tM1, ↓tDNewK_, ↓tOp_, ↓tUn_, ↓rI_, ↓rI0_, ↓rU_, ↓eq_ii, ↓ne_ii, ↓eq_ss, ↓ne_ss, ↓eq_bb, ↓ne_bb, ↓tAndV_, ↓tOrV_, ↓tNotV_, ↓tIf_, ↓tTest_, ↓tB_, ↓tAnd_, ↓tOr_, ↓tNot_, ↓tChain_, ↓tNil_, ↓tCons_, ↓tTup_, ↓tLst_, ↓tCB_, ↓tCall_, ↓tSeq_, ↓tNext_, ↓tRet_, ↓tRetN_, ↓tDrop_, ↓tBreak_, ↓tNever_, ↓tIfS_, ↓tAsg_, ↓gName_, ↓gTup_, ↓gCons_, ↓gNil_, ↓gSub_, ↓tPar_, ↓tPar3_, ↓tSl_, ↓tNoPart_, ↓tPart_, ↓tBM_, ↓tFor_range1, ↓tFor_range2, ↓tFor_list, ↓tFor_tup, L2.start, List.headD_cons, List.headD_nil, List.tail_cons, List.map_cons, List.map_nil, List.length_cons, List.length_nil, List.replicate, List.append_nil, List.nil_append, List.cons_append, List.getElem?_cons_zero, List.getElem?_cons_succ, List.set_cons_zero, List.set_cons_succ, Option.some.injEq, V.int.injEq, V.bl.injEq, V.str.injEq, V.ref.injEq, exists_eq_left, exists_eq_left', exists_eq_right, exists_eq, exists_and_left, and_true, true_and, decide_eq_true_eq, Nat.reduceAdd, Nat.reduceSub, Nat.add_zero, Nat.zero_add, List.cons.injEq, Bool.not_eq_true', decide_eq_false_iff_not, eq_self, reduceCtorEq, Bool.false_eq_true, if_true, if_false, ite_true, ite_false, and_self, ↓tLc_range1, ↓tLc_range2, ↓tLc_list, ↓tLc_tup, ↓tYes_, wipe0, wipe1, ↓tCallS_, ↓rIxL_, ↓rIxT_, ↓rSlL_, ↓rCat_, ↓rSetL_, ↓rRep_, ↓rGcd_, ↓tCallK_, ↓gUnl_, ↓tRaise_, decide_true, decide_false, not_true_eq_false, not_false_eq_true, false_and, or_false, false_or, and_false, and_assoc, exists_const, forall_const, forall_eq'])


section
variable {P : Program} {w : World} {K : PySem.W.Frag} {mg : Str → Option Value} {base : Heap}
/-! ### right -/
open Kp
open PySem.W (dataLt)
structure EqP (P : Program) (w : World) (K : PySem.W.Frag) (mg : Str → Option Value) (base : Heap) (C f : Addr) (fd : FuncData) : Prop where
  n : Oc.NeK K C f
  F : FnOk P w K mg base CX0 1 f fd ["self", "other"] (spPE K C)
  b : Binds K fd ["self", "other"] []
theorem EqP.e {P : Program} {w : World} {K : PySem.W.Frag} {mg : Str → Option Value} {base : Heap} {C f : Addr} {fd : FuncData} (h : EqP P w K mg base C f fd) : Oc.EqK K C f := h.n.toEqK
structure MtC (P : Program) (w : World) (K : PySem.W.Frag) (mg : Str → Option Value) (base : Heap) (C : Addr) (m : Str) (lv : Nat) (ps ks : List Str) (sp : Sp) (f : Addr) (fd : FuncData) : Prop where
  m : Meth K C m f
  F : FnOk P w K mg base CX0 lv f fd ps sp
  b : Binds K fd ps []
  w : KBn K fd ps 1 ks (fun us ws => us ++ ws) (fun vs zs => vs ++ zs)
structure MtS (P : Program) (w : World) (K : PySem.W.Frag) (mg : Str → Option Value) (base : Heap) (C a1 : Addr) (d1 : FuncData) : Prop where
  before : MtC P w K mg base C "comes_before" 4 ["self", "other"] ["other"] (spCb K C) a1 d1
/-- tuples stay -/
def TupK (H H' : Hp) : Prop := ∀ x o, H x = some o → ((∃ xs, o = .tup xs) ∨ ∃ ob xs, o = .frz ob (.tup xs)) → H' x = some o
theorem TupK.trans {H1 H2 H3 : Hp} (a : TupK H1 H2) (b : TupK H2 H3) : TupK H1 H3 := fun x o e q => b _ _ (a _ _ e q) q
theorem same_tup {H H' : Hp} (s : Same H H') : TupK H H' := fun x o e _ => s _ _ e
theorem but_tup {u : Addr} {H H' : Hp} (b : But u H H') (w : WellAt H u) : TupK H H' := fun x o e q => b _ _ (fun z => by
  obtain ⟨a1, a2, a3, ew, _⟩ := w
  rw [z, ew] at e
  cases e
  rcases q with ⟨xs, q⟩ | ⟨ob, xs, q⟩ <;> cases q) e
theorem TupK.upd {H : Hp} {a : Addr} {xs : List V} {o : HO} (e : H a = some (.lst xs)) : TupK H (upd H a o) := fun x o' e' q => by
  rw [upd_ne (fun z => ?_)]
  · exact e'
  · rw [z, e] at e'
    cases e'
    rcases q with ⟨xs, q⟩ | ⟨ob, xs, q⟩ <;> cases q
theorem TupK.sqt {H H' : Hp} (s : TupK H H') {a : Addr} {xs : List V} (h : SqT K H a xs) : SqT K H' a xs := by
  rcases h with (h | ⟨o, h⟩) | h
  · exact .inl (.inl (s _ _ h (.inl ⟨_, rfl⟩)))
  · exact .inl (.inr ⟨o, s _ _ h (.inr ⟨_, _, rfl⟩)⟩)
  · exact .inr h
/-- the rows drawn so far -/
structure RwA (K : PySem.W.Frag) (H : Hp) (t : Addr) (d : RwD) (b : Addr) : Prop where
  t : H t = some (.tup [.str d.z, .ref b, .int (d.l : Nat)])
  b : SqT K H b (d.ls.map fun l => V.int (l : Nat))
def RwL (K : PySem.W.Frag) (H : Hp) (ts : List Addr) (ds : List RwD) : Prop := ts.length = ds.length ∧ ∀ (i : Nat) (t : Addr) (d : RwD), ts[i]? = some t → ds[i]? = some d → ∃ b, RwA K H t d b
theorem RwL.keep {H H' : Hp} {ts : List Addr} {ds : List RwD} (h : RwL K H ts ds) (s : TupK H H') : RwL K H' ts ds := ⟨h.1, fun i t d e1 e2 => by
  obtain ⟨b, g⟩ := h.2 i t d e1 e2
  exact ⟨b, s _ _ g.t (.inl ⟨_, rfl⟩), s.sqt g.b⟩⟩
theorem RwL.put {H : Hp} {ts : List Addr} {ds : List RwD} {t b : Addr} {d : RwD} (h : RwL K H ts ds) (g : RwA K H t d b) : RwL K H (ts ++ [t]) (ds ++ [d]) := ⟨by rw [List.length_append, List.length_append, h.1]; rfl, fun i t' d' e1 e2 => by
  by_cases c : i < ts.length
  · rw [List.getElem?_append_left c] at e1
    rw [List.getElem?_append_left (by rw [← h.1]; exact c)] at e2
    exact h.2 i t' d' e1 e2
  · rw [List.getElem?_append_right (by omega)] at e1
    rw [List.getElem?_append_right (by rw [← h.1]; omega), ← h.1] at e2
    match i - ts.length, e1, e2 with
    | 0, e1, e2 => cases e1; cases e2; exact ⟨b, g⟩
    | j + 1, e1, _ => cases e1⟩
/-- what stands while rows are drawn -/
structure RgP (K : PySem.W.Frag) (H0 : Hp) (u RW : Addr) (i : Nat) (H : Hp) (ts : List Addr) (ds : List RwD) (wl : Addr) (ws : List Str) (ks : List Kn) : Prop where
  b : But u H0 H
  w : WellAt H u
  rw_ : H RW = some (.lst (ts.map V.ref))
  rl : RwL K H ts ds
  ok : ∀ d ∈ ds, RwOk d
  len : ds.length = i
  wd : H wl = some (.lst (ws.map V.str))
  wu : wl ≠ u
  wr : wl ≠ RW
  wok : i = 0 ∨ WdOk ws ks
def RgQ (K : PySem.W.Frag) (H0 : Hp) (u RW : Addr) (i : Nat) (σ : L2.St) (H : Hp) : Prop := ∃ ts ds wl ws ks, RgP K H0 u RW i H ts ds wl ws ks ∧ ∃ y3 y4 y5 y6 : Option V, σ = [some (.ref u), some (.ref RW), some (.ref wl), y3, y4, y5, y6, none, none, none, none, none, none, none, none, none, none, none, none]
/-- the plans made so far -/
def PnL (K : PySem.W.Frag) (C : Addr) (H : Hp) (rs : List Addr) (ds : List RwD) : Prop := rs.length = ds.length ∧ ∀ (i : Nat) (r : Addr) (d : RwD), rs[i]? = some r → ds[i]? = some d → PlA K C H r d.z d.ks d.ls d.l
theorem PnL.up {C : Addr} {H H' : Hp} {rs : List Addr} {ds : List RwD} (h : PnL K C H rs ds) (s : Same H H') : PnL K C H' rs ds := ⟨h.1, fun i r d e1 e2 => (h.2 i r d e1 e2).up s⟩
theorem PnL.put {C : Addr} {H : Hp} {rs : List Addr} {ds : List RwD} {r : Addr} {d : RwD} (h : PnL K C H rs ds) (g : PlA K C H r d.z d.ks d.ls d.l) : PnL K C H (rs ++ [r]) (ds ++ [d]) := ⟨by rw [List.length_append, List.length_append, h.1]; rfl, fun i t' d' e1 e2 => by
  by_cases c : i < rs.length
  · rw [List.getElem?_append_left c] at e1
    rw [List.getElem?_append_left (by rw [← h.1]; exact c)] at e2
    exact h.2 i t' d' e1 e2
  · rw [List.getElem?_append_right (by omega)] at e1
    rw [List.getElem?_append_right (by rw [← h.1]; omega), ← h.1] at e2
    match i - rs.length, e1, e2 with
    | 0, e1, e2 => cases e1; cases e2; exact g
    | j + 1, e1, _ => cases e1⟩
theorem pla_bl {C : Addr} {H : Hp} {D r : Addr} {xs : List V} {o : HO} {z : Str} {ks : List Kn} {ls : List Nat} {l : Nat} (e : H D = some (.lst xs)) (h : PlA K C H r z ks ls l) : PlA K C (upd H D o) r z ks ls l := by
  obtain ⟨dx, a, h1, h2, h3⟩ := h
  refine ⟨dx, a, ?_, (TupK.upd e).sqt h2, h3⟩
  rw [upd_ne (fun q => by rw [q, e] at h1; cases h1)]
  exact h1
theorem PnL.bl {C : Addr} {H : Hp} {D : Addr} {xs : List V} {o : HO} {rs : List Addr} {ds : List RwD} (e : H D = some (.lst xs)) (h : PnL K C H rs ds) : PnL K C (upd H D o) rs ds := ⟨h.1, fun i r d e1 e2 => pla_bl e (h.2 i r d e1 e2)⟩
/-- the keys of the rows -/
def OrL (K : PySem.W.Frag) (H : Hp) (os : List Addr) (ds : List RwD) : Prop := os.length = ds.length ∧ ∀ (i : Nat) (o : Addr) (d : RwD), os[i]? = some o → ds[i]? = some d → ∃ b, SqT K H o [.int (d.ls.sum + d.l : Nat), .str d.z, .ref b, .int (d.l : Nat)] ∧ SqT K H b (d.ls.map fun l => V.int (l : Nat))
theorem OrL.up {H H' : Hp} {os : List Addr} {ds : List RwD} (h : OrL K H os ds) (s : Same H H') : OrL K H' os ds := ⟨h.1, fun i r d e1 e2 => by
  obtain ⟨b, g1, g2⟩ := h.2 i r d e1 e2
  exact ⟨b, sqt_up s g1, sqt_up s g2⟩⟩
theorem OrL.put {H : Hp} {os : List Addr} {ds : List RwD} {o b : Addr} {d : RwD} (h : OrL K H os ds) (g1 : SqT K H o [.int (d.ls.sum + d.l : Nat), .str d.z, .ref b, .int (d.l : Nat)]) (g2 : SqT K H b (d.ls.map fun l => V.int (l : Nat))) : OrL K H (os ++ [o]) (ds ++ [d]) := ⟨by rw [List.length_append, List.length_append, h.1]; rfl, fun i t' d' e1 e2 => by
  by_cases c : i < os.length
  · rw [List.getElem?_append_left c] at e1
    rw [List.getElem?_append_left (by rw [← h.1]; exact c)] at e2
    exact h.2 i t' d' e1 e2
  · rw [List.getElem?_append_right (by omega)] at e1
    rw [List.getElem?_append_right (by rw [← h.1]; omega), ← h.1] at e2
    match i - os.length, e1, e2 with
    | 0, e1, e2 => cases e1; cases e2; exact ⟨b, g1, g2⟩
    | j + 1, e1, _ => cases e1⟩
theorem OrL.bl {H : Hp} {D : Addr} {xs : List V} {o : HO} {os : List Addr} {ds : List RwD} (e : H D = some (.lst xs)) (h : OrL K H os ds) : OrL K (upd H D o) os ds := ⟨h.1, fun i r d e1 e2 => by
  obtain ⟨b, g1, g2⟩ := h.2 i r d e1 e2
  exact ⟨b, (TupK.upd e).sqt g1, (TupK.upd e).sqt g2⟩⟩
theorem OrL.dp {H : Hp} {os : List Addr} {ds : List RwD} (h : OrL K H os ds) {i : Nat} {o : Addr} {d : RwD} (e1 : os[i]? = some o) (e2 : ds[i]? = some d) : Dp K H (.ref o) (dPk d.z d.ls d.l) := by
  obtain ⟨b, g1, g2⟩ := h.2 i o d e1 e2
  exact .tup g1 (.cons (.int _) (.cons (.str _) (.cons (dp_Ls g2) (.cons (.int _) .nil))))
/-- what stands while all is compared -/
structure GsP (K : PySem.W.Frag) (C : Addr) (H0 : Hp) (u RW D D2 : Addr) (ts rs os : List Addr) (ds : List RwD) (H : Hp) : Prop where
  b : But u H0 H
  w : WellAt H u
  r : H RW = some (.lst (ts.map V.ref))
  rl : RwL K H ts ds
  d : H D = some (.lst (rs.map V.ref))
  pn : PnL K C H rs ds
  o : H D2 = some (.lst (os.map V.ref))
  ol : OrL K H os ds
theorem GsP.up {C : Addr} {H0 H H' : Hp} {u RW D D2 : Addr} {ts rs os : List Addr} {ds : List RwD} (g : GsP K C H0 u RW D D2 ts rs os ds H) (s : Same H H') : GsP K C H0 u RW D D2 ts rs os ds H' :=
  ⟨g.b.trans (But.same s), g.w.but s, s _ _ g.r, g.rl.keep (same_tup s), s _ _ g.d, g.pn.up s, s _ _ g.o, g.ol.up s⟩
def KqP (K : PySem.W.Frag) (C : Addr) (H0 : Hp) (u RW D D2 : Addr) (ts rs os : List Addr) (ds : List RwD) (pre : L2.St) (i : Nat) (σ : L2.St) (H : Hp) : Prop := GsP K C H0 u RW D D2 ts rs os ds H ∧ ∃ y9 y10 y11 y12 y13 : Option V, σ = pre ++ [y9, y10, y11, y12, y13, none, none, none, none, none]
def KqJ (K : PySem.W.Frag) (C : Addr) (H0 : Hp) (u RW D D2 : Addr) (ts rs os : List Addr) (ds : List RwD) (pre : L2.St) (i : Nat) (σ : L2.St) (H : Hp) : Prop := GsP K C H0 u RW D D2 ts rs os ds H ∧ ∃ y10 y11 y12 y13 : Option V, σ = pre ++ [y10, y11, y12, y13, none, none, none, none, none]
def d3B (x y : Bool) : PyData := .list [.bool x, .bool y, .bool x]
theorem fit_3B (x y : Bool) : Fit (d3B x y) 1 100 := (Fit.list (k := 0) (n := 5) fun d hd => by
  simp only [List.mem_cons, List.not_mem_nil, or_false] at hd
  rcases hd with rfl | rfl | rfl
  · exact Fit.bl x
  · exact Fit.bl y
  · exact Fit.bl x).mono (Nat.le_refl _) (by show 3 * _ + 3 ≤ _; omega)
theorem dp_3B {H : Hp} {p : Addr} {x y : Bool} (h : H p = some (.lst [.bl x, .bl y, .bl x])) : Dp K H (.ref p) (d3B x y) := .lst (SqL.of h) (.cons (.bl x) (.cons (.bl y) (.cons (.bl x) .nil)))
theorem pla_ins {C : Addr} {H : Hp} {r : Addr} {z : Str} {ks : List Kn} {ls : List Nat} {l : Nat} (h : PlA K C H r z ks ls l) : ∃ dx fs, H r = some (.ins C dx fs) ∧ List.lookup (Str.ofString "comes_before") fs = none := by
  obtain ⟨dx, a, h1, h2, h3⟩ := h
  exact ⟨dx, _, h1, rfl⟩
theorem sum_far : ∀ {ls : List Nat}, (∀ x ∈ ls, x ≤ far) → ls.sum ≤ ls.length * far
  | [], _ => Nat.zero_le _
  | x :: ls, h => by
    rw [List.sum_cons, List.length_cons, Nat.succ_mul]
    have h1 := h x (List.mem_cons_self ..)
    have h2 := sum_far fun y hy => h y (List.mem_cons_of_mem _ hy)
    omega
theorem RwOk.size {d : RwD} (h : RwOk d) : d.ls.sum + d.l < 2 ^ 119 := by
  have h1 := sum_far fun x hx => (h.b x hx).2
  have h2 := Nat.mul_le_mul_right far h.l20
  have h3 := h.lb
  have h4 : 21 * far < 2 ^ 119 := by decide
  omega
theorem fit_Pk {d : RwD} (h : RwOk d) : Fit (dPk d.z d.ls d.l) 2 200000 := (Fit.tuple (k := 1) (n := 41000) fun e he => by
  have l4 := h.w.sok
  have ls20 := h.l20
  simp only [List.mem_cons, List.not_mem_nil, or_false] at he
  rcases he with rfl | rfl | rfl | rfl
  · exact (Fit.int (k := 119) (by decide) (by decide) (by rw [Int.natAbs_natCast]; exact h.size)).mono (by decide) (by decide)
  · exact (Fit.str (n := 4000) l4.1 fun c hc => Nat.lt_trans (l4.2 c hc) (by decide)).mono (by decide) (by decide)
  · exact (fit_Ls fun x hx => (h.b x hx).2).mono (Nat.le_refl _) (by omega)
  · exact (Fit.int (k := 119) (by decide) (by decide) (by rw [Int.natAbs_natCast]; exact Nat.lt_of_le_of_lt h.lb (by decide))).mono (by decide) (by decide)).mono (Nat.le_refl _) (by show 4 * _ + 3 ≤ _; omega)
theorem eqv_Pk (z z' : Str) (ls ls' : List Nat) (l l' : Nat) : PyData.eqv (dPk z ls l) (dPk z' ls' l') = (decide (z = z') && (decide (ls = ls') && decide (l = l'))) := by
  unfold dPk
  rw [PyData.eqv, PyData.eqvAll, PyData.eqvAll, PyData.eqvAll, PyData.eqvAll, PyData.eqvAll, eqv_Ls, PyData.eqv, PyData.eqv, PyData.eqv, Bool.eq_iff_iff]
  simp only [Bool.and_true, Bool.and_eq_true, beq_iff_eq, decide_eq_true_eq]
  constructor
  · rintro ⟨_, h1, h2, h3⟩
    exact ⟨h1, h2, by omega⟩
  · rintro ⟨rfl, rfl, rfl⟩
    exact ⟨rfl, rfl, rfl, rfl⟩
theorem alike_Pk (z z' : Str) (ls ls' : List Nat) (l l' : Nat) : PySem.W.alike (dPk z ls l) (dPk z' ls' l') = true := by
  unfold dPk dLs
  simp only [PySem.W.alike, PySem.W.alikeAll, Ol.alike_ints]
  rfl
theorem ltd_Pk {H : Hp} {Q : VK} {a b : Addr} {z z' : Str} {ls ls' : List Nat} {l l' : Nat} (h : Dp K H (.ref a) (dPk z ls l)) (g : Dp K H (.ref b) (dPk z' ls' l')) (q : Q (.bl (dataLt (dPk z ls l) (dPk z' ls' l'))) H) : Ol.rLtD K (.ref a) (.ref b) H Q :=
  ⟨_, _, h, g, alike_Pk .., (fun e => by cases e), dPk_depth .., q⟩
theorem int_128 (n : Nat) : ∀ c ∈ TL.tl (intT n), c < 128 := fun c hc => by
  have e : TL.tl (intT n) = TL.numL n := TL.tl_num n
  rw [e] at hc
  have := TL.numL_digits n c hc
  omega
theorem len_128 (ls : List Nat) : ∀ c ∈ TL.tl (lenT ls), c < 128 := fun c hc => by
  unfold lenT at hc
  split at hc
  · revert hc
    revert c
    decide +kernel
  · rw [TL.join_eq, TL.tl_join] at hc
    rcases joinL_mem hc with h | ⟨q, hq, hc⟩
    · have e : TL.tl (Str.ofString " ") = [32] := by decide +kernel
      have h : c ∈ TL.tl (Str.ofString " ") := h
      rw [e] at h
      rw [List.mem_singleton.mp h]
      decide
    · obtain ⟨w, hw, rfl⟩ := List.mem_map.mp hq
      obtain ⟨n, _, rfl⟩ := List.mem_map.mp hw
      exact int_128 n c hc
theorem RwOk.text {d : RwD} (h : RwOk d) : (planT d.ws d.ls d.l).length ≤ 7000 ∧ ∀ c ∈ (planT d.ws d.ls d.l).cps.toList, c < 0x110000 := by
  have sb : (" | ":Str).length = 3 := by decide
  have s1b : (" ":Str).length = 1 := by decide
  have z4 : (Txt.join " " d.ws).length ≤ 4000 := h.w.sok.1
  have l130 : (intT d.l).length ≤ 130 := intT_len (Nat.lt_of_le_of_lt h.lb (by decide))
  have lt_ : (lenT d.ls).length ≤ 2700 := by
    unfold lenT
    split
    · decide
    · have := join_len (y := " ") (ws := d.ls.map fun l => intT l) (m := 130) (fun w hw => by
        obtain ⟨n, hn, rfl⟩ := List.mem_map.mp hw
        exact intT_len (Nat.lt_of_le_of_lt (h.b n hn).2 (by decide)))
      rw [List.length_map, s1b] at this
      have := h.l20
      omega
  constructor
  · unfold planT
    rw [Str.length_append, Str.length_append, Str.length_append, Str.length_append, sb]
    omega
  · intro c hc
    have hc : c ∈ TL.tl (planT d.ws d.ls d.l) := hc
    unfold planT at hc
    rw [TL.tl_append, TL.tl_append, TL.tl_append, TL.tl_append] at hc
    have e : TL.tl (Str.ofString " | ") = [32, 124, 32] := by decide +kernel
    have eb : ∀ c ∈ TL.tl (Str.ofString " | "), c < 128 := fun c h => by
      rw [e] at h
      simp only [List.mem_cons, List.not_mem_nil, or_false] at h
      omega
    have : c < 128 := by
      rcases List.mem_append.mp hc with hc | hc
      · rcases List.mem_append.mp hc with hc | hc
        · rcases List.mem_append.mp hc with hc | hc
          · rcases List.mem_append.mp hc with hc | hc
            · exact h.w.sok.2 c hc
            · exact eb c hc
          · exact len_128 _ c hc
        · exact eb c hc
      · exact int_128 _ c hc
    omega
def d4P (d : RwD) : PyData := .list [.str d.z, dLs d.ls, .int (d.l : Nat), .str (planT d.ws d.ls d.l)]
theorem fit_4P {d : RwD} (h : RwOk d) : Fit (d4P d) 2 300000 := (Fit.list (k := 1) (n := 71000) fun e he => by
  have ht := h.text
  have l4 := h.w.sok
  have ls20 := h.l20
  simp only [List.mem_cons, List.not_mem_nil, or_false] at he
  rcases he with rfl | rfl | rfl | rfl
  · exact (Fit.str (n := 4000) l4.1 fun c hc => Nat.lt_trans (l4.2 c hc) (by decide)).mono (by decide) (by decide)
  · exact (fit_Ls fun x hx => (h.b x hx).2).mono (Nat.le_refl _) (by omega)
  · exact (Fit.int (k := 119) (by decide) (by decide) (by rw [Int.natAbs_natCast]; exact Nat.lt_of_le_of_lt h.lb (by decide))).mono (by decide) (by decide)
  · exact (Fit.str (n := 7000) ht.1 ht.2).mono (by decide) (by decide)).mono (Nat.le_refl _) (by show 4 * _ + 3 ≤ _; omega)
theorem dp_4P {H : Hp} {p a : Addr} {d : RwD} (h : H p = some (.lst [.str d.z, .ref a, .int (d.l : Nat), .str (planT d.ws d.ls d.l)])) (g : SqT K H a (d.ls.map fun l => V.int (l : Nat))) : Dp K H (.ref p) (d4P d) := .lst (SqL.of h) (.cons (.str _) (.cons (dp_Ls g) (.cons (.int _) (.cons (.str _) .nil))))
theorem ifs_by {c : TT} {tb te : TS} {D : Ends} {σ : L2.St} {H : Hp} (P : Hp → Prop) (h1 : ∀ H', P H' → tb D σ H') (h2 : ∀ B : Hp → Prop, (∀ H', P H' → B H') → tIfS c (fun _ _ H => B H) te D σ H) : tIfS c tb te D σ H := h2 (fun H' => tb D σ H') h1
def spG : Sp := fun vs H Q _ => ∃ (u : Addr), vs = [.ref u] ∧ WellAt H u ∧ ∀ H', But u H H' → WellAt H' u → Q (.bl true) H'
theorem sc_right : FnScope ["_law_jug_here", "_law_rows", "_law_words", "_law_turn", "_law_letters", "_law_names", "_law_cells", "_law_plans", "_law_orders", "_law_k", "_law_j", "_law_told", "_law_text", "_law_read", "_law_shape", "_law_lengths", "_law_lost", "_law_one", "_law_order"] ["_law_jug_here"] (defScope (top 41)) := ⟨rfl, rfl, rfl, by decide +kernel, rfl, by decide +kernel, by decide +kernel⟩
theorem ok_right {f C fi : Addr} {fd fdi : FuncData} (T : Tx mg) (W : PlB K C) (L : PlM K mg C fi) (F_init : FnOk P w K mg base CX0 3 fi fdi ["self", "shape", "lengths", "lost"] (spPI K C)) (b_init : Binds K fdi ["self", "shape", "lengths", "lost"] [])
    {qe a1 : Addr} {fde d1 : FuncData} (Q_ : EqP P w K mg base C qe fde) (M : MtS P w K mg base C a1 d1) {p3 g3 p4 g4 : Addr} {fp3 fp4 : FuncData} (PT : Prp.PrC P w K mg base 1 C "text" (spPX K C) p3 g3 fp3) (PS : Prp.PrC P w K mg base 1 C "size" (spPS K C) p4 g4 fp4)
    (F : FD K "_law_right" (top 41) f fd) {f0 f1 f2 f3 f4 f5 f6 : Addr} {fd0 fd1 fd2 fd3 fd4 fd5 fd6 : FuncData}
    (C0 : Cal P w K mg base CX0 1 "_law_take" ["_law_jug_here", "_law_many"] spTake f0 fd0) (C1 : Cal P w K mg base CX0 2 "_law_one_of" ["_law_jug_here", "_law_some"] spPick f1 fd1) (C2 : Cal P w K mg base CX0 4 "_law_drawn_store" ["_law_jug_here", "_law_letters", "_law_most"] (spDS K) f2 fd2) (C3 : Cal P w K mg base CX0 3 "_law_plan" ["_law_names", "_law_cells"] (spPl K) f3 fd3)
    (C4 : Cal P w K mg base CX0 3 "_law_drawn_plan" ["_law_jug_here", "_law_words"] (spDP K) f4 fd4) (C5 : Cal P w K mg base CX0 1 "_law_plan_text" ["_law_words", "_law_lengths", "_law_lost"] (spPT K) f5 fd5) (C6 : Cal P w K mg base CX0 6 "read_plan" ["text"] (spPn K C) f6 fd6) (wread_plan : KW K fd6 ["text"]) : Ga.FnG P w K mg base CX0 8 f fd ["_law_jug_here"] spG := by
  obtain ⟨g_law_take, k_law_take, b_law_take, F_law_take⟩ := C0
  obtain ⟨g_law_one_of, k_law_one_of, b_law_one_of, F_law_one_of⟩ := C1
  obtain ⟨g_law_drawn_store, k_law_drawn_store, b_law_drawn_store, F_law_drawn_store⟩ := C2
  obtain ⟨g_law_plan, k_law_plan, b_law_plan, F_law_plan⟩ := C3
  obtain ⟨g_law_drawn_plan, k_law_drawn_plan, b_law_drawn_plan, F_law_drawn_plan⟩ := C4
  obtain ⟨g_law_plan_text, k_law_plan_text, b_law_plan_text, F_law_plan_text⟩ := C5
  obtain ⟨gread_plan, kread_plan, bread_plan, Fread_plan⟩ := C6
  refine Ga.FnG.mk' F sc_right (fun vs H Q E h => ?_) (fun cdv A outer s' H vs Q E hG hr h => ?_)
  · obtain ⟨_, rfl, _⟩ := h
    rfl
  · obtain ⟨u, rfl, hw, k⟩ := h
    have nd := sc_right.nd
    have zl : (1000000 : Nat) ≤ sizeLine := line_big
    refine ⟨_, (pss_cons (ps_par rfl nd (i := 1) (j := 2) rfl rfl (by decide) rfl rfl (pa_cons (pe_lst pa_nil) (pa_cons (pe_lst (pa_cons pe_str pa_nil)) pa_nil)) rfl)
        (pss_cons (ps_for (passes_of rfl) rfl (pi_range1 rfl T.b_range (pa_cons pe_int pa_nil)) (pg_name (i := 3) nd rfl (Or.inl rfl)) (pss_cons (ps_if (PW.pt (pw_or (pt_cmpR op_eq (pv 3) pe_int (nomark _)) (pw_or1 (pt_cmpR op_eq (pe_call F_law_take (hr.mono (by omega)) rfl g_law_take k_law_take b_law_take .nil pass0 (pa_cons (pv 0) (pa_cons pe_int pa_nil))) pe_int (nomark _))))) (pss_cons (ps_set (i := 4) nd rfl (Or.inl rfl) (pe_call F_law_one_of (hr.mono (by omega)) rfl g_law_one_of k_law_one_of b_law_one_of .nil pass0 (pa_cons (pv 0) (pa_cons (pe_lst (pa_cons (pe_lst (pa_cons pe_str pa_nil)) (pa_cons (pe_lst (pa_cons pe_str (pa_cons pe_str pa_nil))) (pa_cons (pe_lst (pa_cons pe_str (pa_cons pe_str pa_nil))) (pa_cons (pe_lst (pa_cons pe_str pa_nil)) pa_nil))))) pa_nil))))
        (pss_cons (ps_asg (pe_call F_law_drawn_store (hr.mono (by omega)) rfl g_law_drawn_store k_law_drawn_store b_law_drawn_store .nil pass0 (pa_cons (pv 0) (pa_cons (pv 4) (pa_cons pe_int pa_nil)))) (pg_tup rfl (pgs_cons (pg_name (i := 5) nd rfl (Or.inl rfl) (hf := Or.inr rfl)) (pgs_cons (pg_name (i := 6) nd rfl (Or.inl rfl) (hf := Or.inr rfl)) pgs_nil))))
        (pss_one (ps_set (i := 2) nd rfl (Or.inl rfl) (pe_ix (r := rIxT K) ix_tup (pe_call F_law_plan (hr.mono (by omega)) rfl g_law_plan k_law_plan b_law_plan .nil pass0 (pa_cons (pv 5) (pa_cons (pv 6) pa_nil))) pe_int (fun _ _ => rfl)))))) pss_nil)
        (pss_one (ps_expr (pe_bm PySem.F.plainAttrs_list PySem.F.slot_list_append PySem.F.type_list_append mt_append (pv 1) (pa_cons (pe_call F_law_drawn_plan (hr.mono (by omega)) rfl g_law_drawn_plan k_law_drawn_plan b_law_drawn_plan .nil pass0 (pa_cons (pv 0) (pa_cons (pv 2) pa_nil))) pa_nil))))))
        (pss_cons (ps_setLc (i := 7) (own := [("_law_shape", 14), ("_law_lengths", 15), ("_law_lost", 16)]) rfl nd rfl rfl (sw_true rfl rfl rfl (by decide +kernel)) (pi_list (pv 1)) (blkOk_by (N := ["_law_jug_here", "_law_rows", "_law_words", "_law_turn", "_law_letters", "_law_names", "_law_cells", "_law_plans", "_law_orders", "_law_k", "_law_j", "_law_told", "_law_text", "_law_read", "_law_shape", "_law_lengths", "_law_lost", "_law_one", "_law_order"]) (sc := defScope (top 41)) (by decide +kernel)) (fun _ _ _ _ _ => (pg_tupK (K := K) (n := 3) rfl rfl (pgs_cons (pg_name (i := 14) nd rfl (Or.inl rfl) (hf := Or.inr rfl)) (pgs_cons (pg_name (i := 15) nd rfl (Or.inl rfl) (hf := Or.inr rfl)) (pgs_cons (pg_name (i := 16) nd rfl (Or.inl rfl) (hf := Or.inr rfl)) pgs_nil))) rfl rfl)) (fun _ _ _ _ _ => pts_nil) (fun _ _ _ _ _ => (pe_make L.mkr F_init (hr.mono (by omega)) rfl L.g b_init .nil pass0 (pa_cons (pv 14) (pa_cons (pv 15) (pa_cons (pv 16) pa_nil))))))
        (pss_cons (ps_setLc (i := 8) (own := [("_law_shape", 14), ("_law_lengths", 15), ("_law_lost", 16)]) rfl nd rfl rfl (sw_true rfl rfl rfl (by decide +kernel)) (pi_list (pv 1)) (blkOk_by (N := ["_law_jug_here", "_law_rows", "_law_words", "_law_turn", "_law_letters", "_law_names", "_law_cells", "_law_plans", "_law_orders", "_law_k", "_law_j", "_law_told", "_law_text", "_law_read", "_law_shape", "_law_lengths", "_law_lost", "_law_one", "_law_order"]) (sc := defScope (top 41)) (by decide +kernel)) (fun _ _ _ _ _ => (pg_tupK (K := K) (n := 3) rfl rfl (pgs_cons (pg_name (i := 14) nd rfl (Or.inl rfl) (hf := Or.inr rfl)) (pgs_cons (pg_name (i := 15) nd rfl (Or.inl rfl) (hf := Or.inr rfl)) (pgs_cons (pg_name (i := 16) nd rfl (Or.inl rfl) (hf := Or.inr rfl)) pgs_nil))) rfl rfl)) (fun _ _ _ _ _ => pts_nil) (fun _ _ _ _ _ => (pe_tup (pa_cons (pe_op op_add (pe_callB (Ol.cr_sumTK (K := K) rfl rfl) (by rfl) T.b_sum (by decide +kernel) (pa_cons (pv 15) pa_nil)) (pv 16)) (pa_cons (pv 14) (pa_cons (pv 15) (pa_cons (pv 16) pa_nil)))))))
        (pss_cons (ps_for (passes_of rfl) rfl (pi_range1 rfl T.b_range (pa_cons pe_int pa_nil)) (pg_name (i := 9) nd rfl (Or.inl rfl)) (pss_cons (ps_for (passes_of rfl) rfl (pi_range1 rfl T.b_range (pa_cons pe_int pa_nil)) (pg_name (i := 10) nd rfl (Or.inl rfl)) (pss_cons (ps_set (i := 11) nd rfl (Or.inl rfl) (pe_lst (pa_cons (pe_meth (pe_ix (r := rIxL K) ix_list (pv 7) (pv 9) (fun _ _ => rfl)) W.cl M.before.m M.before.F (hr.mono (by omega)) M.before.b .nil pass0 (pa_cons (pe_ix (r := rIxL K) ix_list (pv 7) (pv 10) (fun _ _ => rfl)) pa_nil)) (pa_cons (pe_cmpR (Oc.op_eqO (K := K) rfl (hr.mono (by omega)) Q_.e Q_.F Q_.b pass0) (pe_ix (r := rIxL K) ix_list (pv 7) (pv 9) (fun _ _ => rfl)) (pe_ix (r := rIxL K) ix_list (pv 7) (pv 10) (fun _ _ => rfl)) (nomark _)) (pa_cons (Sy.pe_methKw (pe_ix (r := rIxL K) ix_list (pv 7) (pv 9) (fun _ _ => rfl)) W.cl M.before.m M.before.F (hr.mono (by omega)) M.before.w pass0 (pk_cons (pe_ix (r := rIxL K) ix_list (pv 7) (pv 10) (fun _ _ => rfl)) pk_nil)) pa_nil)))))
        (pss_one (ps_if (pt_cmpR op_ne (pe_callB (Ga.call_repr hG hr) (by rfl) T.b_repr (by decide +kernel) (pa_cons (pv 11) pa_nil)) (pe_callB (Ga.call_repr hG hr) (by rfl) T.b_repr (by decide +kernel) (pa_cons (pe_lst (pa_cons (pe_cmpR (Ol.op_ltD hr.units) (pe_ix (r := rIxL K) ix_list (pv 8) (pv 9) (fun _ _ => rfl)) (pe_ix (r := rIxL K) ix_list (pv 8) (pv 10) (fun _ _ => rfl)) (nomark _)) (pa_cons (pe_cmpR (op_eqD hr.units) (pe_ix (r := rIxL K) ix_list (pv 8) (pv 9) (fun _ _ => rfl)) (pe_ix (r := rIxL K) ix_list (pv 8) (pv 10) (fun _ _ => rfl)) (nomark _)) (pa_cons (pe_cmpR (Ol.op_ltD hr.units) (pe_ix (r := rIxL K) ix_list (pv 8) (pv 9) (fun _ _ => rfl)) (pe_ix (r := rIxL K) ix_list (pv 8) (pv 10) (fun _ _ => rfl)) (nomark _)) pa_nil)))) pa_nil)) (nomark _)) (pss_one (ps_ret pe_bl)) pss_nil))))
        (pss_cons (ps_set (i := 12) nd rfl (Or.inl rfl) (pe_call F_law_plan_text (hr.mono (by omega)) rfl g_law_plan_text k_law_plan_text b_law_plan_text .nil pass0 (pa_cons (pe_split (pe_ix (r := rIxT K) ix_tup (pe_ix (r := rIxL K) ix_list (pv 1) (pv 9) (fun _ _ => rfl)) pe_int (fun _ _ => rfl)) pe_str) (pa_cons (pe_ix (r := rIxT K) ix_tup (pe_ix (r := rIxL K) ix_list (pv 1) (pv 9) (fun _ _ => rfl)) pe_int (fun _ _ => rfl)) (pa_cons (pe_ix (r := rIxT K) ix_tup (pe_ix (r := rIxL K) ix_list (pv 1) (pv 9) (fun _ _ => rfl)) pe_int (fun _ _ => rfl)) pa_nil)))))
        (pss_cons (ps_set (i := 13) nd rfl (Or.inl rfl) (pe_callKw Fread_plan (hr.mono (by omega)) rfl gread_plan kread_plan wread_plan pass0 (pk_cons (pv 12) pk_nil)))
        (pss_one (ps_if (PW.pt (pw_or (pt_cmpR (Oc.op_neO (K := K) rfl (hr.mono (by omega)) Q_.n Q_.F Q_.b pass0) (pv 13) (pe_ix (r := rIxL K) ix_list (pv 7) (pv 9) (fun _ _ => rfl)) (nomark _)) (pw_or1 (pt_cmpR op_ne (pe_callB (Ga.call_repr hG hr) (by rfl) T.b_repr (by decide +kernel) (pa_cons (pe_lst (pa_cons (Ob.pe_fldK (K := K) rfl (pv 13) rfl) (pa_cons (Ob.pe_fldK (K := K) rfl (pv 13) rfl) (pa_cons (Ob.pe_fldK (K := K) rfl (pv 13) rfl) (pa_cons (Prp.pe_propK rfl rfl rfl rfl rfl (pe_ix (r := rIxL K) ix_list (pv 7) (pv 9) (fun _ _ => rfl)) W.cl PT (hr.mono (by omega)) pass0 rfl) pa_nil))))) pa_nil)) (pe_callB (Ga.call_repr hG hr) (by rfl) T.b_repr (by decide +kernel) (pa_cons (pe_lst (pa_cons (pe_ix (r := rIxT K) ix_tup (pe_ix (r := rIxL K) ix_list (pv 1) (pv 9) (fun _ _ => rfl)) pe_int (fun _ _ => rfl)) (pa_cons (pe_ix (r := rIxT K) ix_tup (pe_ix (r := rIxL K) ix_list (pv 1) (pv 9) (fun _ _ => rfl)) pe_int (fun _ _ => rfl)) (pa_cons (pe_ix (r := rIxT K) ix_tup (pe_ix (r := rIxL K) ix_list (pv 1) (pv 9) (fun _ _ => rfl)) pe_int (fun _ _ => rfl)) (pa_cons (pv 12) pa_nil))))) pa_nil)) (nomark _))))) (pss_one (ps_ret pe_bl)) pss_nil))))))
        (pss_one (ps_ret (pe_cmpR op_eq (pe_callB (Ga.call_repr hG hr) (by rfl) T.b_repr (by decide +kernel) (pa_cons (pe_lc (own := [("_law_one", 17)]) rfl nd (pi_list (pv 7)) (blkOk_by (N := ["_law_jug_here", "_law_rows", "_law_words", "_law_turn", "_law_letters", "_law_names", "_law_cells", "_law_plans", "_law_orders", "_law_k", "_law_j", "_law_told", "_law_text", "_law_read", "_law_shape", "_law_lengths", "_law_lost", "_law_one", "_law_order"]) (sc := defScope (top 41)) (by decide +kernel)) (fun _ _ _ _ _ => (pg_name (i := 17) nd rfl (Or.inl rfl))) (fun _ _ _ _ _ => pts_nil) (fun _ _ _ _ _ => (Prp.pe_propK rfl rfl rfl rfl rfl (pv 17) W.cl PS (hr.mono (by omega)) pass0 rfl))) pa_nil)) (pe_callB (Ga.call_repr hG hr) (by rfl) T.b_repr (by decide +kernel) (pa_cons (pe_lc (own := [("_law_order", 18)]) rfl nd (pi_list (pv 8)) (blkOk_by (N := ["_law_jug_here", "_law_rows", "_law_words", "_law_turn", "_law_letters", "_law_names", "_law_cells", "_law_plans", "_law_orders", "_law_k", "_law_j", "_law_told", "_law_text", "_law_read", "_law_shape", "_law_lengths", "_law_lost", "_law_one", "_law_order"]) (sc := defScope (top 41)) (by decide +kernel)) (fun _ _ _ _ _ => (pg_name (i := 18) nd rfl (Or.inl rfl))) (fun _ _ _ _ _ => pts_nil) (fun _ _ _ _ _ => (pe_ix (r := rIxT K) ix_tup (pv 18) pe_int (fun _ _ => rfl)))) pa_nil)) (nomark _))))))))), ?_⟩
    refine sq fun U hU => ?_
    walk_at "rd"
    have nf : ∀ {H' : Hp} {a : Addr}, WellAt H' u → H' a = none → a ≠ u := fun w e z => by
      obtain ⟨_, _, _, wh, _⟩ := w
      rw [z, wh] at e; cases e
    refine ⟨by omega, fun RW hRW => ⟨by omega, fun WL hWL => hU _ _ ?_⟩⟩
    clear hU
    have t1 := same_new (o := HO.lst []) hRW
    have t2 := same_new (o := HO.lst [V.str (Str.ofString "x.")]) hWL
    have eR := t2 _ _ (upd_same (H := H) (a := RW) (o := HO.lst []))
    have eW := upd_same (H := upd H RW (.lst [])) (a := WL) (o := HO.lst [V.str (Str.ofString "x.")])
    have nRu := nf hw hRW
    have nWu := nf (hw.but t1) hWL
    have nWR : WL ≠ RW := fun z => by rw [z, upd_same] at hWL; cases hWL
    have s12 := t1.trans t2
    have w2 := (hw.but t1).but t2
    generalize upd (upd H RW (.lst [])) WL (.lst [V.str (Str.ofString "x.")]) = H2 at eR eW s12 w2 ⊢
    clear t1 t2 hWL
    refine sq fun U hU => ?_
    walk_at "rd"
    refine ⟨by decide, by decide, for_r (n := (5 : Int).toNat) (RgQ K H u RW) ⟨[], [], WL, [Str.ofString "x."], [], ⟨But.same s12, w2, eR, ⟨rfl, fun i t d h => (by cases h)⟩, (fun d h => (by cases h)), rfl, eW, nWu, nWR, .inl rfl⟩, _, _, _, _, rfl⟩ ?_ ?_⟩
    · rintro i σ H3 hi ⟨ts, ds, wl, ws, ks, g, y3, y4, y5, y6, rfl⟩
      refine sq fun U2 hU2 => ?_
      have fin : ∀ (wl' : Addr) (ws' : List Str) (ks' : List Kn) (H4 : Hp) (y4' y5' y6' : Option V), But u H3 H4 → WellAt H4 u → H4 wl' = some (.lst (ws'.map V.str)) → wl' ≠ u → wl' ≠ RW → WdOk ws' ks' →
          U2 [some (.ref u), some (.ref RW), some (.ref wl'), some (.int (0 + (i : Int))), y4', y5', y6', none, none, none, none, none, none, none, none, none, none, none, none] H4 := fun wl' ws' ks' H4 y4' y5' y6' b4 w4 hwl nwu nwr wok => by
        refine hU2 _ _ ?_
        clear hU2
        walk_at "rd"
        have eR4 := b4 _ _ nRu g.rw_
        have rl4 := g.rl.keep (but_tup b4 g.w)
        refine ⟨.inl ⟨rfl, _, SqL.of eR4⟩, u, wl', ws', rfl, w4, nwu, hwl, wok.n, wok.l, fun t b ls l H5 b5 w5 ht hb hl hls hll => ?_⟩
        have eR5 := b5 _ _ nRu eR4
        have hwl5 := b5 _ _ nwu hwl
        have rl5 := (rl4.keep (but_tup b5 w4)).put (d := ⟨ws', ks', ls, l⟩) ⟨ht, hb⟩
        have tl := g.rl.1
        have dl := g.len
        have t5 : TupK H5 (upd H5 RW (.lst (ts.map V.ref ++ [V.ref t]))) := TupK.upd eR5
        refine ⟨RW, _, _, rfl, rfl, eR5, by rw [List.length_map]; omega, ts ++ [t], ds ++ [⟨ws', ks', ls, l⟩], wl', ws', ks', ⟨fun x o n e => ?_, ?_, ?_, rl5.keep t5, fun d hd => ?_, ?_, ?_, nwu, nwr, .inr wok⟩, _, _, _, _, rfl⟩
        · rw [upd_ne (ne_of_none e hRW)]
          exact b5 _ _ n (b4 _ _ n (g.b _ _ n e))
        · obtain ⟨q1, q2, q3, ew, r⟩ := w5
          exact ⟨q1, q2, q3, by rw [upd_ne (Ne.symm nRu)]; exact ew, r⟩
        · rw [upd_same, List.map_append]
          rfl
        · rcases List.mem_append.mp hd with hd | hd
          · exact g.ok d hd
          · rw [List.mem_singleton.mp hd]
            exact ⟨wok, by rw [← wok.c]; exact hl, hls, hll⟩
        · rw [List.length_append, dl]
          rfl
        · rw [upd_ne nwr]
          exact hwl5
      refine ifs_by (fun H4 => But u H3 H4 ∧ WellAt H4 u) ?_ fun B hB => ?_
      · rintro H4 ⟨b4, w4⟩
        clear hU2
        refine sq fun U3 hU3 => ?_
        walk_at "rd"
        refine ⟨by omega, fun l1 h1 => ?_⟩
        have n1 := nf w4 h1
        have a1 := same_new (o := HO.lst [V.str (Str.ofString "x")]) h1
        have e1 : upd H4 l1 (.lst [V.str (Str.ofString "x")]) l1 = some (.lst [V.str (Str.ofString "x")]) := upd_same
        have wx1 := w4.but a1
        generalize upd H4 l1 (.lst [V.str (Str.ofString "x")]) = Hx1 at a1 e1 wx1 ⊢
        refine ⟨by omega, fun l2 h2 => ?_⟩
        have n2 := nf wx1 h2
        have a2 := same_new (o := HO.lst [V.str (Str.ofString "x"), V.str (Str.ofString "y")]) h2
        have e2 : upd Hx1 l2 (.lst [V.str (Str.ofString "x"), V.str (Str.ofString "y")]) l2 = some (.lst [V.str (Str.ofString "x"), V.str (Str.ofString "y")]) := upd_same
        have wx2 := wx1.but a2
        generalize upd Hx1 l2 (.lst [V.str (Str.ofString "x"), V.str (Str.ofString "y")]) = Hx2 at a2 e2 wx2 ⊢
        refine ⟨by omega, fun l3 h3 => ?_⟩
        have n3 := nf wx2 h3
        have a3 := same_new (o := HO.lst [V.str (Str.ofString "x"), V.str (Str.ofString "y")]) h3
        have e3 : upd Hx2 l3 (.lst [V.str (Str.ofString "x"), V.str (Str.ofString "y")]) l3 = some (.lst [V.str (Str.ofString "x"), V.str (Str.ofString "y")]) := upd_same
        have wx3 := wx2.but a3
        generalize upd Hx2 l3 (.lst [V.str (Str.ofString "x"), V.str (Str.ofString "y")]) = Hx3 at a3 e3 wx3 ⊢
        refine ⟨by omega, fun l4 h4 => ?_⟩
        have n4 := nf wx3 h4
        have a4 := same_new (o := HO.lst [V.str (Str.ofString "y")]) h4
        have e4 : upd Hx3 l4 (.lst [V.str (Str.ofString "y")]) l4 = some (.lst [V.str (Str.ofString "y")]) := upd_same
        have wx4 := wx3.but a4
        generalize upd Hx3 l4 (.lst [V.str (Str.ofString "y")]) = Hx4 at a4 e4 wx4 ⊢
        refine ⟨by omega, fun l5 h5 => ?_⟩
        have n5 := nf wx4 h5
        have a5 := same_new (o := HO.lst [V.ref l1, V.ref l2, V.ref l3, V.ref l4]) h5
        have e5 : upd Hx4 l5 (.lst [V.ref l1, V.ref l2, V.ref l3, V.ref l4]) l5 = some (.lst [V.ref l1, V.ref l2, V.ref l3, V.ref l4]) := upd_same
        have wx5 := wx4.but a5
        generalize upd Hx4 l5 (.lst [V.ref l1, V.ref l2, V.ref l3, V.ref l4]) = Hx5 at a5 e5 wx5 ⊢
        have w5 := wx5
        have s5 := (((a1.trans a2).trans a3).trans a4).trans a5
        replace e1 := a5 _ _ (a4 _ _ (a3 _ _ (a2 _ _ e1)))
        replace e2 := a5 _ _ (a4 _ _ (a3 _ _ e2))
        replace e3 := a5 _ _ (a4 _ _ e3)
        replace e4 := a5 _ _ e4
        refine ⟨u, .ref l5, _, rfl, w5, (fun z => by injection z with z; exact n5 z), .lst e5, by simp, by simp, fun y H6 b6 w6 hy => ?_⟩
        have lay : ∃ (l : Addr) (cs : List Nat), y = .ref l ∧ H6 l = some (.lst (cs.map sL)) ∧ l ≠ u ∧ 1 ≤ cs.length ∧ cs.length ≤ 4 ∧ cs.Pairwise (· < ·) ∧ ∀ c ∈ cs, 97 ≤ c ∧ c ≤ 122 := by
          have x1 : sL 120 = V.str (Str.ofString "x") := by decide +kernel
          have x2 : sL 121 = V.str (Str.ofString "y") := by decide +kernel
          simp only [List.mem_cons, List.not_mem_nil, or_false] at hy
          rcases hy with rfl | rfl | rfl | rfl
          · exact ⟨l1, [120], rfl, by rw [List.map_cons, List.map_nil, x1]; exact b6 _ _ n1 e1, n1, by decide, by decide, by simp, by simp⟩
          · exact ⟨l2, [120, 121], rfl, by rw [List.map_cons, List.map_cons, List.map_nil, x1, x2]; exact b6 _ _ n2 e2, n2, by decide, by decide, by simp, by simp⟩
          · exact ⟨l3, [120, 121], rfl, by rw [List.map_cons, List.map_cons, List.map_nil, x1, x2]; exact b6 _ _ n3 e3, n3, by decide, by decide, by simp, by simp⟩
          · exact ⟨l4, [121], rfl, by rw [List.map_cons, List.map_nil, x2]; exact b6 _ _ n4 e4, n4, by decide, by decide, by simp, by simp⟩
        obtain ⟨ll, lcs, rfl, hll, llu, c1, c4, clt, cab⟩ := lay
        have b46 : But u H4 H6 := (But.same s5).trans b6
        clear e1 e2 e3 e4 e5 a1 a2 a3 a4 a5 h1 h2 h3 h4 h5 n1 n2 n3 n4 n5 hy s5 b6 w5
        refine hU3 _ _ ?_
        clear hU3
        refine sq fun U3 hU3 => ?_
        walk_at "rd"
        refine ⟨u, ll, lcs, 5, rfl, w6, llu, hll, by decide, c1, c4, clt, cab, fun t a b ns cs H7 b7 w7 ht ha hb okn okc nl nsl cl => ?_⟩
        refine ⟨t, rfl, _, SqT.of ht, rfl, _, _, rfl, _, _, rfl, rfl, hU3 _ _ ?_⟩
        clear hU3
        walk_at "rd"
        refine ⟨a, b, ns, cs, rfl, ha, hb, okn, okc, by omega, fun t2 wl2 le sl kb lls R F H8 s8 eR8 eF8 nR8 hwy ht2 hwl2 _ _ _ _ => ?_⟩
        have S : StK cs ns R F := ⟨okn, hwy, nR8, eR8, eF8⟩
        have o2 := okn.2.1
        have wok := S.wds (by omega)
        refine ⟨t2, rfl, _, SqT.of ht2, V.ref wl2, rfl, ?_⟩
        have b38 : But u H3 H8 := ((b4.trans b46).trans b7).trans (But.same s8)
        have w8 := w7.but s8
        have wne : F.map (wdT cs ns F (nxF cs ns R)) ≠ [] := fun z => by
          have e := List.map_eq_nil_iff.mp z
          have := S.rt.l1
          unfold ksF at this
          rw [e] at this
          simp [ltrs] at this
        have hwl2 : H8 wl2 = some (.lst ((F.map (wdT cs ns F (nxF cs ns R))).map V.str)) := hwl2
        refine fin wl2 _ _ H8 _ _ _ b38 w8 hwl2 (fun z => ?_) (fun z => ?_) wok
        · obtain ⟨q1, q2, q3, ew, _⟩ := w8
          rw [z, ew] at hwl2
          injection hwl2 with hwl2
          injection hwl2 with hwl2
          cases e : F.map (wdT cs ns F (nxF cs ns R)) with
          | nil => exact wne e
          | cons x l => rw [e] at hwl2; cases hwl2
        · have eR8 := b38 _ _ nRu g.rw_
          rw [z, eR8] at hwl2
          injection hwl2 with hwl2
          injection hwl2 with hwl2
          cases e : F.map (wdT cs ns F (nxF cs ns R)) with
          | nil => exact wne e
          | cons x l =>
            rw [e] at hwl2
            cases ts with
            | nil => cases hwl2
            | cons y ts => cases hwl2
      walk_at "rd"
      by_cases i0 : i = 0
      · rw [if_pos (by omega)]
        exact hB _ ⟨But.refl, g.w⟩
      · rw [if_neg (by omega)]
        refine ⟨u, 2, rfl, g.w, by decide, by decide, fun d H4 b4 w4 d0 d2 => ?_⟩
        simp only [eq_ii]
        refine ⟨_, rfl, ?_⟩
        by_cases q : d = 0
        · rw [if_pos (decide_eq_true q)]
          exact hB _ ⟨b4, w4⟩
        · rw [if_neg (by rw [decide_eq_false q]; decide)]
          exact fin wl ws ks H4 _ _ _ b4 w4 (b4 _ _ g.wu g.wd) g.wu g.wr (g.wok.resolve_left i0)
    rintro σ H3 ⟨ts, ds, wl, ws, ks, g, y3, y4, y5, y6, rfl⟩
    refine hU _ _ ?_
    clear hU
    have g5 : ds.length = 5 := g.len
    have b03 := g.b
    have w3 := g.w
    have eR3 := g.rw_
    have rl3 := g.rl
    have okd := g.ok
    have tl5 : ts.length = 5 := by rw [g.rl.1, g5]
    clear g
    refine sq fun U hU => ?_
    walk_at "rd"
    refine ⟨⟨_, SqL.of eR3⟩, lc_l (xs := ts.map V.ref) (fun D j H' => Same H3 H' ∧ ∃ rs : List Addr, H' D = some (.lst (rs.map V.ref)) ∧ PnL K C H' rs (ds.take j)) fun D hD => ⟨⟨same_new hD, [], upd_same, rfl, fun i r d h => (by cases h)⟩, fun j H' _ hP => SqL.of (hP.1 _ _ eR3), ?_, ?_⟩⟩
    · rintro j x H4 hx ⟨s4, rs, hD4, pn4⟩
      obtain ⟨t, ht, rfl⟩ := map_at hx
      have jl := (List.getElem?_eq_some_iff.mp ht).1
      obtain ⟨d, hd⟩ : ∃ d, ds[j]? = some d := ⟨_, List.getElem?_eq_getElem (by omega)⟩
      obtain ⟨b, rt, rb⟩ := rl3.2 j t d ht hd
      have okj := okd d (List.mem_of_getElem? hd)
      unfold Lturn
      walk_at "rd"
      have rt4 : SqT K H4 t [.str d.z, .ref b, .int (d.l : Nat)] := sqt_up s4 (SqT.of rt)
      have rb4 := sqt_up s4 rb
      refine ⟨_, rt4, rfl, _, _, rfl, _, _, rfl, _, _, rfl, rfl, fun x dx hx hdx hne => ?_⟩
      have ms := fun (H5 : Hp) (b5 : But x (upd (upd H4 dx (.own x)) x (.ins C dx [])) H5) => make_same hx hdx b5
      have sM : Same H4 (upd (upd H4 dx (.own x)) x (.ins C dx [])) := ms _ But.refl
      refine ⟨x, dx, b, d.z, d.ks, d.ls, d.l, rfl, upd_same, sqt_up sM rb4, okj.pl, fun H5 b5 pa => ?_⟩
      have s45 := ms H5 b5
      have hD5 := s45 _ _ hD4
      have rl_ := pn4.1
      rw [List.length_take] at rl_
      refine ⟨rfl, _, hD5, by rw [List.length_map]; omega, fun y o e => by rw [upd_ne (ne_of_none e hD)]; exact s45 _ _ (s4 _ _ e), rs ++ [x], by rw [upd_same, List.map_append]; rfl, ?_⟩
      rw [List.take_succ, hd]
      exact ((pn4.up s45).put pa).bl hD5
    rintro H4 ⟨s4, rs, hD4, pn4⟩
    rw [List.length_map, tl5, ← g5, List.take_length] at pn4
    refine hU _ _ ?_
    clear hU
    have eR4 := s4 _ _ eR3
    have rl4 := rl3.keep (same_tup s4)
    have b04 : But u H H4 := b03.trans (But.same s4)
    have w4 := w3.but s4
    clear eR3 rl3 b03 w3 s4
    refine sq fun U hU => ?_
    walk_at "rd"
    refine ⟨⟨_, SqL.of eR4⟩, lc_l (xs := ts.map V.ref) (fun D2 j H' => Same H4 H' ∧ ∃ os : List Addr, H' D2 = some (.lst (os.map V.ref)) ∧ OrL K H' os (ds.take j)) fun D2 hD2 => ⟨⟨same_new hD2, [], upd_same, rfl, fun i r d h => (by cases h)⟩, fun j H' _ hP => SqL.of (hP.1 _ _ eR4), ?_, ?_⟩⟩
    · rintro j x H5 hx ⟨s5, os, hD5, or5⟩
      obtain ⟨t, ht, rfl⟩ := map_at hx
      have jl := (List.getElem?_eq_some_iff.mp ht).1
      obtain ⟨d, hd⟩ : ∃ d, ds[j]? = some d := ⟨_, List.getElem?_eq_getElem (by omega)⟩
      obtain ⟨b, rt, rb⟩ := rl4.2 j t d ht hd
      have okj := okd d (List.mem_of_getElem? hd)
      unfold Lturn
      walk_at "rd"
      have rt5 : SqT K H5 t [.str d.z, .ref b, .int (d.l : Nat)] := sqt_up s5 (SqT.of rt)
      have rb5 := sqt_up s5 rb
      have se : ∀ ls : List Nat, (ls.map fun n : Nat => (n : Int)).sum = ((ls.sum : Nat) : Int) := fun ls => by
        induction ls with
        | nil => rfl
        | cons x ls ih =>
          rw [List.map_cons, List.sum_cons, List.sum_cons, ih]
          omega
      refine ⟨_, rt5, rfl, _, _, rfl, _, _, rfl, _, _, rfl, rfl, b, d.ls.map fun n : Nat => (n : Int), rfl, by rw [List.map_map]; exact rb5, _, rfl, _, rfl, by omega, fun p hp => ?_⟩
      rw [se, show ((d.ls.sum : Nat) : Int) + (d.l : Int) = ((d.ls.sum + d.l : Nat) : Int) by omega]
      have s6 := same_new (o := HO.tup [V.int (d.ls.sum + d.l : Nat), .str d.z, .ref b, .int (d.l : Nat)]) hp
      have e6 : upd H5 p (.tup [V.int (d.ls.sum + d.l : Nat), .str d.z, .ref b, .int (d.l : Nat)]) p = some (.tup [V.int (d.ls.sum + d.l : Nat), .str d.z, .ref b, .int (d.l : Nat)]) := upd_same
      generalize upd H5 p (.tup [V.int (d.ls.sum + d.l : Nat), .str d.z, .ref b, .int (d.l : Nat)]) = H6 at s6 e6 ⊢
      have hD6 := s6 _ _ hD5
      have ol_ := or5.1
      rw [List.length_take] at ol_
      refine ⟨_, hD6, by rw [List.length_map]; omega, fun y o e => by rw [upd_ne (ne_of_none e hD2)]; exact s6 _ _ (s5 _ _ e), os ++ [p], by rw [upd_same, List.map_append]; rfl, ?_⟩
      rw [List.take_succ, hd]
      exact ((or5.up s6).put (SqT.of e6) (sqt_up s6 rb5)).bl hD6
    rintro H5 ⟨s5, os, hD5, or5⟩
    rw [List.length_map, tl5, ← g5, List.take_length] at or5
    refine hU _ _ ?_
    clear hU
    have eR5 := s5 _ _ eR4
    have rl5 := rl4.keep (same_tup s5)
    have b05 : But u H H5 := b04.trans (But.same s5)
    have w5 := w4.but s5
    have pn5 := pn4.up s5
    have hP5 := s5 _ _ hD4
    clear eR4 rl4 b04 w4 pn4 hD4
    refine sq fun U hU => ?_
    walk_at "rd"
    have G : GsP K C H u RW D D2 ts rs os ds H5 := ⟨b05, w5, eR5, rl5, hP5, pn5, hD5, or5⟩
    clear b05 w5 eR5 rl5 hP5 pn5 hD5 or5 s5
    refine ⟨by decide, by decide, for_r (n := (5 : Int).toNat) (KqP K C H u RW D D2 ts rs os ds [some (.ref u), some (.ref RW), some (.ref wl), y3, y4, y5, y6, some (.ref D), some (.ref D2)]) ⟨G, _, _, _, _, _, rfl⟩ ?_ ?_⟩
    · rintro i σ H6 hi ⟨G6, y9, y10, y11, y12, y13, rfl⟩
      obtain ⟨d, hd⟩ : ∃ d, ds[i]? = some d := ⟨_, List.getElem?_eq_getElem (by rw [g5]; exact hi)⟩
      obtain ⟨t, ht⟩ : ∃ t, ts[i]? = some t := ⟨_, List.getElem?_eq_getElem (by rw [tl5]; exact hi)⟩
      obtain ⟨r, hr_⟩ : ∃ t, rs[i]? = some t := ⟨_, List.getElem?_eq_getElem (by rw [G6.pn.1, g5]; exact hi)⟩
      obtain ⟨o, ho⟩ : ∃ t, os[i]? = some t := ⟨_, List.getElem?_eq_getElem (by rw [G6.ol.1, g5]; exact hi)⟩
      have okd1 := okd d (List.mem_of_getElem? hd)
      refine sq fun U2 hU2 => ?_
      walk_at "rd"
      refine ⟨by decide, by decide, for_r (n := (5 : Int).toNat) (KqJ K C H u RW D D2 ts rs os ds [some (.ref u), some (.ref RW), some (.ref wl), y3, y4, y5, y6, some (.ref D), some (.ref D2), some (.int (0 + (i : Int)))]) ⟨G6, _, _, _, _, rfl⟩ ?_ ?_⟩
      · rintro j σ H7 hj ⟨G7, y10, y11, y12, y13, rfl⟩
        obtain ⟨dj, hdj⟩ : ∃ d, ds[j]? = some d := ⟨_, List.getElem?_eq_getElem (by rw [g5]; exact hj)⟩
        obtain ⟨rj, hrj⟩ : ∃ t, rs[j]? = some t := ⟨_, List.getElem?_eq_getElem (by rw [G7.pn.1, g5]; exact hj)⟩
        obtain ⟨oj, hoj⟩ : ∃ t, os[j]? = some t := ⟨_, List.getElem?_eq_getElem (by rw [G7.ol.1, g5]; exact hj)⟩
        have okdj := okd dj (List.mem_of_getElem? hdj)
        have aR : ∀ (n : Nat) (x : Addr), rs[n]? = some x → atI (rs.map V.ref) (0 + (n : Int)) = some (.ref x) := fun n x h => atI_nn (by omega) (by rw [show (0 + (n : Int)).toNat = n by omega, List.getElem?_map, h]; rfl)
        have aO : ∀ (n : Nat) (x : Addr), os[n]? = some x → atI (os.map V.ref) (0 + (n : Int)) = some (.ref x) := fun n x h => atI_nn (by omega) (by rw [show (0 + (n : Int)).toNat = n by omega, List.getElem?_map, h]; rfl)
        refine sq fun U3 hU3 => ?_
        walk_at "rd"
        have pa := G7.pn.2 i r d hr_ hd
        have pb := G7.pn.2 j rj dj hrj hdj
        obtain ⟨dx, fs, hin, hlk⟩ := pla_ins pa
        obtain ⟨dy, gs, hjn, _⟩ := pla_ins pb
        refine ⟨_, SqL.of G7.d, _, aR i r hr_, r, rfl, dx, fs, hin, hlk, _, SqL.of G7.d, _, aR j rj hrj, r, rj, d.z, dj.z, d.ks, dj.ks, d.ls, dj.ls, d.l, dj.l, rfl, pa, pb, fun H8 s8 => ?_⟩
        have G8 := G7.up s8
        refine ⟨_, SqL.of G8.d, _, aR i r hr_, _, SqL.of G8.d, _, aR j rj hrj, ?_⟩
        refine ⟨r, dx, fs, rfl, s8 _ _ hin, .ins (s8 _ _ hjn), r, rj, d.z, dj.z, d.ks, dj.ks, d.ls, dj.ls, d.l, dj.l, rfl, pa.up s8, pb.up s8, _, rfl, ?_⟩
        refine ⟨_, SqL.of G8.d, _, aR i r hr_, r, rfl, dx, fs, s8 _ _ hin, hlk, _, SqL.of G8.d, _, aR j rj hrj, ?_⟩
        refine ⟨r, rj, d.z, dj.z, d.ks, dj.ks, d.ls, dj.ls, d.l, dj.l, rfl, pa.up s8, pb.up s8, fun H9 s9 => ⟨by omega, fun p hp => hU3 _ _ ?_⟩⟩
        clear hU3
        have s10 := same_new (o := HO.lst [V.bl (dataLt (dPk d.z d.ls d.l) (dPk dj.z dj.ls dj.l)), V.bl (decide (d.z = dj.z) && (decide (d.ls = dj.ls) && decide (d.l = dj.l))), V.bl (dataLt (dPk d.z d.ls d.l) (dPk dj.z dj.ls dj.l))]) hp
        have e10 : upd H9 p (.lst [V.bl (dataLt (dPk d.z d.ls d.l) (dPk dj.z dj.ls dj.l)), V.bl (decide (d.z = dj.z) && (decide (d.ls = dj.ls) && decide (d.l = dj.l))), V.bl (dataLt (dPk d.z d.ls d.l) (dPk dj.z dj.ls dj.l))]) p = some (.lst [V.bl (dataLt (dPk d.z d.ls d.l) (dPk dj.z dj.ls dj.l)), V.bl (decide (d.z = dj.z) && (decide (d.ls = dj.ls) && decide (d.l = dj.l))), V.bl (dataLt (dPk d.z d.ls d.l) (dPk dj.z dj.ls dj.l))]) := upd_same
        have G10 := (G8.up s9).up s10
        generalize upd H9 p (.lst [V.bl (dataLt (dPk d.z d.ls d.l) (dPk dj.z dj.ls dj.l)), V.bl (decide (d.z = dj.z) && (decide (d.ls = dj.ls) && decide (d.l = dj.l))), V.bl (dataLt (dPk d.z d.ls d.l) (dPk dj.z dj.ls dj.l))]) = H10 at s10 e10 G10 ⊢
        clear s10
        walk_at "rd"
        have p1 := G10.ol.dp ho hd
        have p2 := G10.ol.dp hoj hdj
        refine rRepr_fit (fit_3B _ _) (by decide) (by decide) (dp_3B e10) ?_
        refine ⟨_, SqL.of G10.o, _, aO i o ho, _, SqL.of G10.o, _, aO j oj hoj, ltd_Pk p1 p2 ?_⟩
        refine ⟨_, SqL.of G10.o, _, aO i o ho, _, SqL.of G10.o, _, aO j oj hoj, rEqD_ (fit_Pk okd1) (fit_Pk okdj) (by decide) (by decide) p1 p2 ?_⟩
        rw [eqv_Pk]
        refine ⟨_, SqL.of G10.o, _, aO i o ho, _, SqL.of G10.o, _, aO j oj hoj, ltd_Pk p1 p2 ⟨by omega, fun p3 hp3 => ?_⟩⟩
        refine rRepr_fit (fit_3B _ _) (by decide) (by decide) (dp_3B upd_same) ?_
        have s11 := same_new (o := HO.lst [V.bl (dataLt (dPk d.z d.ls d.l) (dPk dj.z dj.ls dj.l)), V.bl (decide (d.z = dj.z) && (decide (d.ls = dj.ls) && decide (d.l = dj.l))), V.bl (dataLt (dPk d.z d.ls d.l) (dPk dj.z dj.ls dj.l))]) hp3
        simp only [ne_ss]
        refine ⟨_, rfl, ?_⟩
        rw [if_neg (by simp)]
        exact ⟨G10.up s11, _, _, _, _, rfl⟩
      rintro σ H7 ⟨G7, y10, y11, y12, y13, rfl⟩
      refine hU2 _ _ ?_
      clear hU2
      refine sq fun U2 hU2 => ?_
      walk_at "rd"
      have aT : atI (ts.map V.ref) (0 + (i : Int)) = some (.ref t) := atI_nn (by omega) (by rw [show (0 + (i : Int)).toNat = i by omega, List.getElem?_map, ht]; rfl)
      have aR : atI (rs.map V.ref) (0 + (i : Int)) = some (.ref r) := atI_nn (by omega) (by rw [show (0 + (i : Int)).toNat = i by omega, List.getElem?_map, hr_]; rfl)
      obtain ⟨b, rA⟩ := G7.rl.2 i t d ht hd
      have rt7 : SqT K H7 t [.str d.z, .ref b, .int (d.l : Nat)] := SqT.of rA.t
      have z4 : d.z.length ≤ 4000 := okd1.w.sok.1
      refine ⟨_, SqL.of G7.r, _, aT, t, rfl, _, rt7, .str d.z, rfl, ⟨_, rfl⟩, _, rfl, by decide, by omega, fun q hq => ?_⟩
      rw [show Txt.split d.z (Str.ofString " ") = d.ws from okd1.w.sp]
      have s8 := same_new (o := HO.lst (d.ws.map V.str)) hq
      have e8 : upd H7 q (.lst (d.ws.map V.str)) q = some (.lst (d.ws.map V.str)) := upd_same
      have G8 := G7.up s8
      have rt8 := sqt_up s8 rt7
      have rb8 := sqt_up s8 rA.b
      generalize upd H7 q (.lst (d.ws.map V.str)) = H8 at s8 e8 G8 rt8 rb8 ⊢
      have f120 : far < 2 ^ 120 := by decide
      refine ⟨_, SqL.of G8.r, _, aT, t, rfl, _, rt8, .ref b, rfl, _, SqL.of G8.r, _, aT, t, rfl, _, rt8, .int (d.l : Nat), rfl, ?_⟩
      refine ⟨q, b, d.ws, d.ls, d.l, rfl, SqL.of e8, rb8, okd1.w.n, okd1.w.l, okd1.l20, fun x hx => Nat.lt_of_le_of_lt (okd1.b x hx).2 f120, Nat.lt_of_le_of_lt okd1.lb f120, fun H9 s9 => hU2 _ _ ?_⟩
      clear hU2
      have G9 := G8.up s9
      have rt9 := sqt_up s9 rt8
      have rb9 := sqt_up s9 rb8
      refine sq fun U2 hU2 => ?_
      walk_at "rd"
      refine ⟨d.z, d.ks, d.ls, d.l, rfl, okd1.pl, by have := okd1.l20; omega, fun rr H10 s10 pr => hU2 _ _ ?_⟩
      clear hU2
      have G10 := G9.up s10
      have rt10 := sqt_up s10 rt9
      have rb10 := sqt_up s10 rb9
      have pi := G10.pn.2 i r d hr_ hd
      obtain ⟨dx, fs, hin, _⟩ := pla_ins pi
      obtain ⟨dy, gs, hrn, _⟩ := pla_ins pr
      walk_at "rd"
      refine ⟨_, SqL.of G10.d, _, aR, ⟨rr, dy, gs, rfl, hrn, .ins hin, rr, r, d.z, d.z, d.ks, d.ks, d.ls, d.ls, d.l, d.l, rfl, pr, pi, _, rfl, ?_⟩⟩
      refine ⟨_, rfl, ?_⟩
      rw [if_neg (by simp)]
      obtain ⟨dr, ar, hr1, hr2, _⟩ := pr
      obtain ⟨q1, q2, q3, q4⟩ := PlA.fa W hr1
      refine ⟨_, q1, _, q2, _, q3, _, SqL.of G10.d, _, aR, r, rfl, dx, fs, hin, r, d.z, d.ks, d.ls, d.l, rfl, pi, fun H11 s11 => ⟨by omega, fun p hp => ?_⟩⟩
      have s12 := same_new (o := HO.lst [V.str d.z, .ref ar, .int (d.l : Nat), .str (planT d.ws d.ls d.l)]) hp
      have e12 : upd H11 p (.lst [V.str d.z, .ref ar, .int (d.l : Nat), .str (planT d.ws d.ls d.l)]) p = some (.lst [V.str d.z, .ref ar, .int (d.l : Nat), .str (planT d.ws d.ls d.l)]) := upd_same
      show Ga.rRepr K [V.ref p] (upd H11 p (.lst [V.str d.z, .ref ar, .int (d.l : Nat), .str (planT d.ws d.ls d.l)])) _
      have G12 := (G10.up s11).up s12
      have rt12 := sqt_up s12 (sqt_up s11 rt10)
      have rb12 := sqt_up s12 (sqt_up s11 rb10)
      have hr12 := sqt_up s12 (sqt_up s11 hr2)
      generalize upd H11 p (.lst [V.str d.z, .ref ar, .int (d.l : Nat), .str (planT d.ws d.ls d.l)]) = H12 at e12 G12 rt12 rb12 hr12 ⊢
      refine rRepr_fit (fit_4P okd1) (by decide) (by decide) (dp_4P e12 hr12) ?_
      refine ⟨_, SqL.of G12.r, _, aT, t, rfl, _, rt12, .str d.z, rfl, _, SqL.of G12.r, _, aT, t, rfl, _, rt12, .ref b, rfl, _, SqL.of G12.r, _, aT, t, rfl, _, rt12, .int (d.l : Nat), rfl, ?_⟩
      refine ⟨by omega, fun p2 hp2 => ?_⟩
      have s13 := same_new (o := HO.lst [V.str d.z, .ref b, .int (d.l : Nat), .str (planT d.ws d.ls d.l)]) hp2
      refine rRepr_fit (fit_4P okd1) (by decide) (by decide) (dp_4P upd_same (sqt_up s13 rb12)) ?_
      simp only [ne_ss]
      refine ⟨_, rfl, ?_⟩
      rw [if_neg (by simp)]
      exact ⟨G12.up s13, _, _, _, _, _, rfl⟩
    rintro σ H6 ⟨G6, y9, y10, y11, y12, y13, rfl⟩
    refine hU _ _ ?_
    clear hU
    walk_at "rd"
    have szl : ∀ H' (a : Addr), H' a = some (.lst ((ds.map fun d => d.ls.sum + d.l).map fun n : Nat => V.int n)) → Dp K H' (.ref a) (.list (((ds.map fun d => d.ls.sum + d.l).map fun n : Nat => (n : Int)).map .int)) := fun H' a h => dp_nats h
    have szf : Fit (.list (((ds.map fun d => d.ls.sum + d.l).map fun n : Nat => (n : Int)).map .int)) 1 (((ds.map fun d => d.ls.sum + d.l).map fun n : Nat => (n : Int)).length * (119 + 3) + 3) := fit_ints (k := 119) (by decide) (by decide) fun n hn => by
      obtain ⟨x, hx, rfl⟩ := List.mem_map.mp hn
      obtain ⟨d, hd, rfl⟩ := List.mem_map.mp hx
      rw [Int.natAbs_natCast]
      exact (okd d hd).size
    have szn : ((ds.map fun d => d.ls.sum + d.l).map fun n : Nat => (n : Int)).length * (119 + 3) + 3 ≤ 1000000 := by
      rw [List.length_map, List.length_map, g5]
      decide
    refine ⟨⟨_, SqL.of G6.d⟩, lc_l (xs := rs.map V.ref) (fun D3 j H' => Same H6 H' ∧ H' D3 = some (.lst (((ds.take j).map fun d => d.ls.sum + d.l).map fun n : Nat => V.int n))) fun D3 hD3 => ⟨⟨same_new hD3, upd_same⟩, fun j H' _ hP => SqL.of (hP.1 _ _ G6.d), ?_, ?_⟩⟩
    · rintro j x H7 hx ⟨s7, hD7⟩
      obtain ⟨r, hr_, rfl⟩ := map_at hx
      have jl := (List.getElem?_eq_some_iff.mp hr_).1
      have pl := G6.pn.1
      obtain ⟨d, hd⟩ : ∃ d, ds[j]? = some d := ⟨_, List.getElem?_eq_getElem (by omega)⟩
      have pi := (G6.up s7).pn.2 j r d hr_ hd
      obtain ⟨dx, fs, hin, _⟩ := pla_ins pi
      unfold Lturn
      walk_at "rd"
      refine ⟨dx, fs, hin, r, d.z, d.ks, d.ls, d.l, rfl, pi, _, hD7, ?_, fun y o e => by rw [upd_ne (ne_of_none e hD3)]; exact s7 _ _ e, ?_⟩
      · rw [List.length_map, List.length_map, List.length_take]
        omega
      · rw [upd_same, List.take_succ, hd, List.map_append, List.map_append]
        rfl
    rintro H7 ⟨s7, hD7⟩
    rw [List.length_map, G6.pn.1, List.take_length] at hD7
    have G7 := G6.up s7
    refine rRepr_fit szf (by decide) szn (szl _ _ hD7) ?_
    refine ⟨⟨_, SqL.of G7.o⟩, lc_l (xs := os.map V.ref) (fun D3 j H' => Same H7 H' ∧ H' D3 = some (.lst (((ds.take j).map fun d => d.ls.sum + d.l).map fun n : Nat => V.int n))) fun D3 hD3 => ⟨⟨same_new hD3, upd_same⟩, fun j H' _ hP => SqL.of (hP.1 _ _ G7.o), ?_, ?_⟩⟩
    · rintro j x H8 hx ⟨s8, hD8⟩
      obtain ⟨o, ho, rfl⟩ := map_at hx
      have jl := (List.getElem?_eq_some_iff.mp ho).1
      have ol := G7.ol.1
      obtain ⟨d, hd⟩ : ∃ d, ds[j]? = some d := ⟨_, List.getElem?_eq_getElem (by omega)⟩
      obtain ⟨b, g1, g2⟩ := (G7.up s8).ol.2 j o d ho hd
      unfold Lturn
      walk_at "rd"
      refine ⟨_, g1, V.int (d.ls.sum + d.l : Nat), rfl, _, hD8, ?_, fun y o e => by rw [upd_ne (ne_of_none e hD3)]; exact s8 _ _ e, ?_⟩
      · rw [List.length_map, List.length_map, List.length_take]
        omega
      · rw [upd_same, List.take_succ, hd, List.map_append, List.map_append]
        rfl
    rintro H8 ⟨s8, hD8⟩
    rw [List.length_map, G7.ol.1, List.take_length] at hD8
    refine rRepr_fit szf (by decide) szn (szl _ _ hD8) ?_
    simp only [eq_ss]
    have G8 := G7.up s8
    simp only [decide_true]
    exact k H8 G8.b G8.w
end
end K10

set_option Elab.async false
set_option linter.all false
set_option maxRecDepth 100000
set_option maxHeartbeats 4000000
namespace K10
open PySem PySem.Spec PyProof.Rows L2 Rd Dt Dq Pk Ln En Sx Sy So Sr Lk Rq
local macro_rules | `(tactic| walk_at "rd") => `(tactic| try simp only [↓Lk.tLockE_, ↓Lk.tLock_, ↓Lk.tLc_keys, ↓Lk.tFor_keys, ↓Sy.tTupP_, ↓Sy.rTupP_, ↓Sy.rCatP_, ↓Sy.rSlP_, ↓Sy.rDictT_, ↓Sy.tDGet_, ↓Sy.tDGet1_, ↓Sy.tDIn_, ↓Sy.tDNotIn_, ↓Sy.tMeth_, ↓Sy.tMethKw_, ↓Sy.rSortedS_, ↓Sx.rIsT_, ↓En.tFor_enumT, ↓Sy.tFor_enumL, ↓Rv.tMakeKw_, ↓Prp.tProp_, ↓Lo.tBits_, ↓Lo.tJs_n, ↓Lo.tJs_c, ↓Lo.tFmt_, ↓Lo.gFld_, ↓Lo.tMake_, ↓Lo.rOwn_, ↓Rg.tFor_range3, ↓Rg.tLc_range3, ↓Rg.tLstC_, ↓Rg.tLc_rngV, ↓Le.rNeLE_, ↓Le.rEqLE_, ↓Ls.tLc_str, ↓Ls.sDPut_, ↓Rl.rReprL_, ↓Rl.tCallKS_, ↓Ob.tFld_, ↓Ob.sFld_, ↓tVar_, ↓tC_, ↓tM1, ↓tDNewK_, ↓tOp_, ↓tUn_, ↓rI_, ↓rI0_, ↓rU_, ↓eq_ii, ↓ne_ii, ↓eq_ss, ↓ne_ss, ↓eq_bb, ↓ne_bb, ↓tAndV_, ↓tOrV_, ↓tNotV_, ↓tIf_, ↓tTest_, ↓tB_, ↓tAnd_, ↓tOr_, ↓tNot_, ↓tChain_, ↓tNil_, ↓tCons_, ↓tTup_, ↓tLst_, ↓tCB_, ↓tCall_, ↓tSeq_, ↓tNext_, ↓tRet_, ↓tRetN_, ↓tDrop_, ↓tBreak_, ↓tNever_, ↓tIfS_, ↓tAsg_, ↓gName_, ↓gTup_, ↓gCons_, ↓gNil_, ↓gSub_, ↓tPar_, ↓tPar3_, ↓tSl_, ↓tNoPart_, ↓tPart_, ↓tBM_, ↓tFor_range1, ↓tFor_range2, ↓tFor_list, ↓tFor_tup, L2.start, List.headD_cons, List.headD_nil, List.tail_cons, List.map_cons, List.map_nil, List.length_cons, List.length_nil, List.replicate, List.append_nil, List.nil_append, List.cons_append, List.getElem?_cons_zero, List.getElem?_cons_succ, List.set_cons_zero, List.set_cons_succ, Option.some.injEq, V.int.injEq, V.bl.injEq, V.str.injEq, V.ref.injEq, exists_eq_left, exists_eq_left', exists_eq_right, exists_eq, exists_and_left, and_true, true_and, decide_eq_true_eq, Nat.reduceAdd, Nat.reduceSub, Nat.add_zero, Nat.zero_add, List.cons.injEq, Bool.not_eq_true', decide_eq_false_iff_not, eq_self, reduceCtorEq, Bool.false_eq_true, if_true, if_false, ite_true, ite_false, and_self, ↓tLc_range1, ↓tLc_range2, ↓tLc_list, ↓tLc_tup, ↓tYes_, wipe0, wipe1, ↓tCallS_, ↓rIxL_, ↓rIxT_, ↓rSlL_, ↓rCat_, ↓rSetL_, ↓rRep_, ↓rGcd_, ↓tCallK_, ↓gUnl_, ↓tRaise_, decide_true, decide_false, not_true_eq_false, not_false_eq_true, false_and, or_false, false_or, and_false, and_assoc, exists_const, forall_const, forall_eq'])


section
variable {P : Program} {w : World} {K : PySem.W.Frag} {mg : Str → Option Value} {base : Heap}
/-! ### law -/
theorem sc_law : FnScope ["_law_script", "_law_turn"] ["_law_script"] (defScope (top 42)) := ⟨rfl, rfl, rfl, by decide +kernel, rfl, by decide +kernel, by decide +kernel⟩
def spLaw (K : PySem.W.Frag) : Sp := fun vs H Q _ => ∃ (a : Addr) (ns : List Int), vs = [.ref a] ∧ SqL K H a (ns.map V.int) ∧ ns.length ≤ 63 ∧ ∀ H', Q (.bl true) H'
def lwP (H : Hp) (D : Addr) (i : Nat) (H' : Hp) : Prop := Same H H' ∧ H' D = some (.lst ((List.replicate i true).map V.bl))
theorem ok_law (T : Tx mg) {f : Addr} {fd : FuncData} (F : FD K "law" (top 42) f fd) {f1 f2 : Addr} {fd1 fd2 : FuncData} (C1 : CalG P w K mg base CX0 8 "_law_right" ["_law_jug_here"] spG f1 fd1)
    (C2 : Cal P w K mg base CX0 1 "_law_jug" ["_law_script", "_law_turn"] (spJug K) f2 fd2) : Ga.FnG P w K mg base CX0 9 f fd ["_law_script"] (spLaw K) := by
  obtain ⟨g_law_right, k_law_right, b_law_right, F_law_right⟩ := C1
  obtain ⟨g_law_jug, k_law_jug, b_law_jug, F_law_jug⟩ := C2
  refine Ga.FnG.mk' F sc_law (fun vs H Q E h => ?_) (fun cdv A outer s' H vs Q E hG hr h => ?_)
  · obtain ⟨_, _, rfl, _⟩ := h
    rfl
  · obtain ⟨a, ns, rfl, ha, hn, k⟩ := h
    have nd := sc_law.nd
    refine ⟨_, (pss_one (ps_ret (pe_callB (cr_all rfl) (by rfl) T.b_all (by decide +kernel) (pa_cons (pe_lc (own := [("_law_turn", 1)]) rfl nd (pi_range1 rfl T.b_range (pa_cons (pe_callB (call_max2 rfl) (by rfl) T.b_max (by decide +kernel) (pa_cons pe_int (pa_cons (pe_callB (call_min2 rfl) (by rfl) T.b_min (by decide +kernel) (pa_cons (pe_callB call_len_seq (by rfl) T.b_len PySem.boot_len (pa_cons (pv 0) pa_nil)) (pa_cons pe_int pa_nil))) pa_nil))) pa_nil)) (blkOk_by (N := ["_law_script", "_law_turn"]) (sc := defScope (top 42)) (by decide +kernel)) (fun _ _ _ _ _ => (pg_name (i := 1) nd rfl (Or.inl rfl))) (fun _ _ _ _ _ => pts_nil) (fun _ _ _ _ _ => (Ga.pe_callG F_law_right hG (hr.mono (by omega)) rfl g_law_right k_law_right b_law_right .nil pass0 (pa_cons (pe_call F_law_jug (hr.mono (by omega)) rfl g_law_jug k_law_jug b_law_jug .nil pass0 (pa_cons (pv 0) (pa_cons (pv 1) pa_nil))) pa_nil)))) pa_nil)))), ?_⟩
    walk_at "rd"
    refine ⟨_, .inl ha, ?_⟩
    have en : ∃ n : Int, n = (if (if 4 < ((ns.map V.int).length : Int) then 4 else ((ns.map V.int).length : Int)) > 2 then (if 4 < ((ns.map V.int).length : Int) then 4 else ((ns.map V.int).length : Int)) else 2) ∧ 2 ≤ n ∧ n ≤ 4 := ⟨_, rfl, by split <;> split <;> omega, by split <;> split <;> omega⟩
    obtain ⟨n, e, n2, n3⟩ := en
    rw [← e]
    refine ⟨by omega, by omega, lc_r (lwP H) fun D hD => ⟨⟨same_new hD, upd_same⟩, ?_, ?_⟩⟩
    · rintro i H' hi ⟨hs, hL⟩
      unfold Lturn
      walk_at "rd"
      refine ⟨a, ns, _, rfl, hs.seq ha, hn, by omega, by omega, fun u H1 s1 u0 w1 => ⟨u, rfl, w1, fun H2 b2 w2 => ?_⟩⟩
      have s2 : Same H' H2 := fun b o e => b2 b o (ne_of_none e u0) (s1 b o e)
      refine ⟨_, s2 _ _ hL, ?_, fun b o e => ?_, ?_⟩
      · rw [List.length_map, List.length_replicate]
        refine Nat.lt_of_le_of_lt (show i ≤ 4 by omega) (by rw [sizeLine_eq]; decide)
      · rw [upd_ne (ne_of_none e hD)]
        exact s2 b o (hs b o e)
      · rw [upd_same, List.replicate_succ', List.map_append]; rfl
    · rintro H' ⟨hs, hL⟩
      refine ⟨D, _, rfl, SqL.of hL, ?_⟩
      rw [show (List.replicate n.toNat true).all id = true from by simp]
      exact k _
end
end K10

set_option Elab.async false
set_option linter.all false
set_option maxRecDepth 100000
set_option maxHeartbeats 0
namespace K10H
open PySem PySem.Spec PyProof.Rows L2 Rd Dt Dq Pk Ln En Sx Sy So Sr Lk Rq K10
theorem facts {P : Program} {w : World} {K : PySem.W.Frag} {h : Heap} {mg : Str → Option Value} {f : Addr} (X : K.In h) (G : h.Ns mainGlobals mg) (hfa : mg ("law" : Str) = some (.ref f)) (c : He.SaysD fa fn K) (xx : ex K = true) (pp : Prp.SaysP prs K) :
    ∃ fd : FuncData, (∀ (s : Shared) (v : Value), BindsTo s fd ⟨[v], []⟩ [("_law_script", v)]) ∧ ∀ base : Heap, K.In base → base.Ns mainGlobals mg → Ga.FnG P w K mg base CX0 9 f fd ["_law_script"] (spLaw K) := by
  obtain ⟨fd_is_whole, F_is_whole⟩ := c.def_ 0 (d := d0) rfl
  obtain ⟨fd_is_between, F_is_between⟩ := c.def_ 1 (d := d1) rfl
  obtain ⟨fd_number_in, F_number_in⟩ := c.def_ 2 (d := d2) rfl
  obtain ⟨fd_knots_in, F_knots_in⟩ := c.def_ 3 (d := d3) rfl
  obtain ⟨fd_are_knots_right, F_are_knots_right⟩ := c.def_ 4 (d := d4) rfl
  obtain ⟨fd_has_needless_knot, F_has_needless_knot⟩ := c.def_ 5 (d := d5) rfl
  obtain ⟨fd_knot_order, F_knot_order⟩ := c.def_ 6 (d := d6) rfl
  obtain ⟨fd_shape_of_knots, F_shape_of_knots⟩ := c.def_ 7 (d := d7) rfl
  obtain ⟨fd_shape_knots, F_shape_knots⟩ := c.def_ 8 (d := d8) rfl
  obtain ⟨fd_Plan___init__, F_Plan___init__⟩ := c.def_ 9 (d := d9) rfl
  obtain ⟨fd_Plan___eq__, F_Plan___eq__⟩ := c.def_ 10 (d := d10) rfl
  obtain ⟨fd_Plan_comes_before, F_Plan_comes_before⟩ := c.def_ 11 (d := d11) rfl
  obtain ⟨fd_check_plan, F_check_plan⟩ := c.def_ 12 (d := d12) rfl
  obtain ⟨fd_plan_key, F_plan_key⟩ := c.def_ 13 (d := d13) rfl
  obtain ⟨fd_plan_in, F_plan_in⟩ := c.def_ 14 (d := d14) rfl
  obtain ⟨fd_read_plan, F_read_plan⟩ := c.def_ 15 (d := d15) rfl
  obtain ⟨fd__law_jug, F__law_jug⟩ := c.def_ 16 (d := d16) rfl
  obtain ⟨fd__law_take, F__law_take⟩ := c.def_ 17 (d := d17) rfl
  obtain ⟨fd__law_one_of, F__law_one_of⟩ := c.def_ 18 (d := d18) rfl
  obtain ⟨fd__law_drawn_cells, F__law_drawn_cells⟩ := c.def_ 19 (d := d19) rfl
  obtain ⟨fd__law_drawn_store, F__law_drawn_store⟩ := c.def_ 20 (d := d20) rfl
  obtain ⟨fd__law_arrows, F__law_arrows⟩ := c.def_ 21 (d := d21) rfl
  obtain ⟨fd__law_gone_along, F__law_gone_along⟩ := c.def_ 22 (d := d22) rfl
  obtain ⟨fd__law_knots, F__law_knots⟩ := c.def_ 23 (d := d23) rfl
  obtain ⟨fd__law_plan, F__law_plan⟩ := c.def_ 24 (d := d24) rfl
  obtain ⟨fd__law_plan_text, F__law_plan_text⟩ := c.def_ 25 (d := d25) rfl
  obtain ⟨fd__law_drawn_plan, F__law_drawn_plan⟩ := c.def_ 26 (d := d26) rfl
  obtain ⟨fd__law_right, F__law_right⟩ := c.def_ 27 (d := d27) rfl
  obtain ⟨fd_law, F_law⟩ := c.def_ 28 (d := d28) rfl
  obtain ⟨P_Plan_size, fd_Plan_size, F_Plan_size⟩ := pp.at 0 (p := prs[0]) rfl
  obtain ⟨P_Plan_text, fd_Plan_text, F_Plan_text⟩ := pp.at 1 (p := prs[1]) rfl
  have g_is_whole := He.glo_ok X G (c.fact 0 (f := .glo "is_whole") rfl)
  have g_is_between := He.glo_ok X G (c.fact 1 (f := .glo "is_between") rfl)
  have g_number_in := He.glo_ok X G (c.fact 2 (f := .glo "number_in") rfl)
  have g_knots_in := He.glo_ok X G (c.fact 3 (f := .glo "knots_in") rfl)
  have g_are_knots_right := He.glo_ok X G (c.fact 4 (f := .glo "are_knots_right") rfl)
  have g_has_needless_knot := He.glo_ok X G (c.fact 5 (f := .glo "has_needless_knot") rfl)
  have g_knot_order := He.glo_ok X G (c.fact 6 (f := .glo "knot_order") rfl)
  have g_shape_of_knots := He.glo_ok X G (c.fact 7 (f := .glo "shape_of_knots") rfl)
  have g_shape_knots := He.glo_ok X G (c.fact 8 (f := .glo "shape_knots") rfl)
  have g_Plan := He.glo_ok X G (c.fact 9 (f := .glo "Plan") rfl)
  have g_check_plan := He.glo_ok X G (c.fact 10 (f := .glo "check_plan") rfl)
  have g_plan_key := He.glo_ok X G (c.fact 11 (f := .glo "plan_key") rfl)
  have g_plan_in := He.glo_ok X G (c.fact 12 (f := .glo "plan_in") rfl)
  have g_read_plan := He.glo_ok X G (c.fact 13 (f := .glo "read_plan") rfl)
  have g__law_jug := He.glo_ok X G (c.fact 14 (f := .glo "_law_jug") rfl)
  have g__law_take := He.glo_ok X G (c.fact 15 (f := .glo "_law_take") rfl)
  have g__law_one_of := He.glo_ok X G (c.fact 16 (f := .glo "_law_one_of") rfl)
  have g__law_drawn_cells := He.glo_ok X G (c.fact 17 (f := .glo "_law_drawn_cells") rfl)
  have g__law_drawn_store := He.glo_ok X G (c.fact 18 (f := .glo "_law_drawn_store") rfl)
  have g__law_arrows := He.glo_ok X G (c.fact 19 (f := .glo "_law_arrows") rfl)
  have g__law_gone_along := He.glo_ok X G (c.fact 20 (f := .glo "_law_gone_along") rfl)
  have g__law_knots := He.glo_ok X G (c.fact 21 (f := .glo "_law_knots") rfl)
  have g__law_plan := He.glo_ok X G (c.fact 22 (f := .glo "_law_plan") rfl)
  have g__law_plan_text := He.glo_ok X G (c.fact 23 (f := .glo "_law_plan_text") rfl)
  have g__law_drawn_plan := He.glo_ok X G (c.fact 24 (f := .glo "_law_drawn_plan") rfl)
  have g__law_right := He.glo_ok X G (c.fact 25 (f := .glo "_law_right") rfl)
  have g_law := He.glo_ok X G (c.fact 26 (f := .glo "law") rfl)
  have b_len := He.free_ok X G (c.fact 27 (f := .free "len") rfl)
  have b_int := He.free_ok X G (c.fact 28 (f := .free "int") rfl)
  have b_isinstance := He.free_ok X G (c.fact 29 (f := .free "isinstance") rfl)
  have b_abs := He.free_ok X G (c.fact 30 (f := .free "abs") rfl)
  have b_divmod := He.free_ok X G (c.fact 31 (f := .free "divmod") rfl)
  have b_range := He.free_ok X G (c.fact 32 (f := .free "range") rfl)
  have b_max := He.free_ok X G (c.fact 33 (f := .free "max") rfl)
  have b_min := He.free_ok X G (c.fact 34 (f := .free "min") rfl)
  have b_repr := He.free_ok X G (c.fact 35 (f := .free "repr") rfl)
  have b_all := He.free_ok X G (c.fact 36 (f := .free "all") rfl)
  have b_list := He.free_ok X G (c.fact 37 (f := .free "list") rfl)
  have b_tuple := He.free_ok X G (c.fact 38 (f := .free "tuple") rfl)
  have b_str := He.free_ok X G (c.fact 39 (f := .free "str") rfl)
  have b_bool := He.free_ok X G (c.fact 40 (f := .free "bool") rfl)
  have b_dict := He.free_ok X G (c.fact 41 (f := .free "dict") rfl)
  have b_enumerate := He.free_ok X G (c.fact 42 (f := .free "enumerate") rfl)
  have b_sorted := He.free_ok X G (c.fact 43 (f := .free "sorted") rfl)
  have b_sum := He.free_ok X G (c.fact 44 (f := .free "sum") rfl)
  have b_set := He.free_ok X G (c.fact 45 (f := .free "set") rfl)
  have b_any := He.free_ok X G (c.fact 46 (f := .free "any") rfl)
  have i_MOST_NAMES := He.int_ok X G (c.fact 47 (f := .int "MOST_NAMES" (4)) rfl)
  have i_FAR := He.int_ok X G (c.fact 48 (f := .int "FAR" (1000000000000000000000000000000)) rfl)
  have i_LETTERS := He.str_ok X G (c.fact 49 (f := .str "LETTERS" abc) rfl)
  have i_FIGURES := He.str_ok X G (c.fact 50 (f := .str "FIGURES" fig) rfl)
  have z_cls := He.cls_ok (c.fact 51 (f := .cls "Plan") rfl)
  have z_s := He.noat_ok (c.fact 52 (f := .noat "Plan" "shape") rfl)
  have z_g := He.noat_ok (c.fact 53 (f := .noat "Plan" "lengths") rfl)
  have z_o := He.noat_ok (c.fact 54 (f := .noat "Plan" "lost") rfl)
  have z_t := He.noat_ok (c.fact 55 (f := .noat "Plan" "letters") rfl)
  have z_mk := He.mkr_ok (c.fact 56 (f := .mkr "Plan") rfl)
  have z_eq := He.meth_ok (c.fact 57 (f := .meth "Plan" "__eq__") rfl)
  have z_comes_before := He.meth_ok (c.fact 58 (f := .meth "Plan" "comes_before") rfl)
  have k_is_whole : Binds K fd_is_whole ["value"] [] := F_is_whole.bindsN fun _ _ _ _ _ _ us hl => match us, hl with | [_], _ => rfl
  have k_is_between : Binds K fd_is_between ["value", "low", "high"] [] := F_is_between.bindsN fun _ _ _ _ _ _ us hl => match us, hl with | [_, _, _], _ => rfl
  have k_number_in : Binds K fd_number_in ["word", "high"] [] := F_number_in.bindsN fun _ _ _ _ _ _ us hl => match us, hl with | [_, _], _ => rfl
  have k_knots_in : Binds K fd_knots_in ["shape"] [] := F_knots_in.bindsN fun _ _ _ _ _ _ us hl => match us, hl with | [_], _ => rfl
  have k_are_knots_right : Binds K fd_are_knots_right ["knots"] [] := F_are_knots_right.bindsN fun _ _ _ _ _ _ us hl => match us, hl with | [_], _ => rfl
  have k_has_needless_knot : Binds K fd_has_needless_knot ["knots"] [] := F_has_needless_knot.bindsN fun _ _ _ _ _ _ us hl => match us, hl with | [_], _ => rfl
  have k_knot_order : Binds K fd_knot_order ["knots"] [] := F_knot_order.bindsN fun _ _ _ _ _ _ us hl => match us, hl with | [_], _ => rfl
  have k_shape_of_knots : Binds K fd_shape_of_knots ["knots", "order"] [] := F_shape_of_knots.bindsN fun _ _ _ _ _ _ us hl => match us, hl with | [_, _], _ => rfl
  have k_shape_knots : Binds K fd_shape_knots ["value"] [] := F_shape_knots.bindsN fun _ _ _ _ _ _ us hl => match us, hl with | [_], _ => rfl
  have k_Plan___init__ : Binds K fd_Plan___init__ ["self", "shape", "lengths", "lost"] [] := F_Plan___init__.bindsN fun _ _ _ _ _ _ us hl => match us, hl with | [_, _, _, _], _ => rfl
  have k_Plan___eq__ : Binds K fd_Plan___eq__ ["self", "other"] [] := F_Plan___eq__.bindsN fun _ _ _ _ _ _ us hl => match us, hl with | [_, _], _ => rfl
  have k_Plan_comes_before : Binds K fd_Plan_comes_before ["self", "other"] [] := F_Plan_comes_before.bindsN fun _ _ _ _ _ _ us hl => match us, hl with | [_, _], _ => rfl
  have k_check_plan : Binds K fd_check_plan ["value"] [] := F_check_plan.bindsN fun _ _ _ _ _ _ us hl => match us, hl with | [_], _ => rfl
  have k_plan_key : Binds K fd_plan_key ["plan"] [] := F_plan_key.bindsN fun _ _ _ _ _ _ us hl => match us, hl with | [_], _ => rfl
  have k_plan_in : Binds K fd_plan_in ["text"] [] := F_plan_in.bindsN fun _ _ _ _ _ _ us hl => match us, hl with | [_], _ => rfl
  have k_read_plan : Binds K fd_read_plan ["text"] [] := F_read_plan.bindsN fun _ _ _ _ _ _ us hl => match us, hl with | [_], _ => rfl
  have w_read_plan : KW K fd_read_plan ["text"] := kbn0 F_read_plan _ (fun l => l) (fun r => r) fun _ _ _ _ _ _ us hl => match us, hl with | [_], _ => rfl
  have k__law_jug : Binds K fd__law_jug ["_law_script", "_law_turn"] [] := F__law_jug.bindsN fun _ _ _ _ _ _ us hl => match us, hl with | [_, _], _ => rfl
  have k__law_take : Binds K fd__law_take ["_law_jug_here", "_law_many"] [] := F__law_take.bindsN fun _ _ _ _ _ _ us hl => match us, hl with | [_, _], _ => rfl
  have k__law_one_of : Binds K fd__law_one_of ["_law_jug_here", "_law_some"] [] := F__law_one_of.bindsN fun _ _ _ _ _ _ us hl => match us, hl with | [_, _], _ => rfl
  have k__law_drawn_cells : Binds K fd__law_drawn_cells ["_law_jug_here", "_law_most"] [] := F__law_drawn_cells.bindsN fun _ _ _ _ _ _ us hl => match us, hl with | [_, _], _ => rfl
  have k__law_drawn_store : Binds K fd__law_drawn_store ["_law_jug_here", "_law_letters", "_law_most"] [] := F__law_drawn_store.bindsN fun _ _ _ _ _ _ us hl => match us, hl with | [_, _, _], _ => rfl
  have k__law_arrows : Binds K fd__law_arrows ["_law_cells"] [] := F__law_arrows.bindsN fun _ _ _ _ _ _ us hl => match us, hl with | [_], _ => rfl
  have k__law_gone_along : Binds K fd__law_gone_along ["_law_arrows_here", "_law_place"] [] := F__law_gone_along.bindsN fun _ _ _ _ _ _ us hl => match us, hl with | [_, _], _ => rfl
  have k__law_knots : Binds K fd__law_knots ["_law_names", "_law_arrows_here"] [] := F__law_knots.bindsN fun _ _ _ _ _ _ us hl => match us, hl with | [_, _], _ => rfl
  have k__law_plan : Binds K fd__law_plan ["_law_names", "_law_cells"] [] := F__law_plan.bindsN fun _ _ _ _ _ _ us hl => match us, hl with | [_, _], _ => rfl
  have k__law_plan_text : Binds K fd__law_plan_text ["_law_words", "_law_lengths", "_law_lost"] [] := F__law_plan_text.bindsN fun _ _ _ _ _ _ us hl => match us, hl with | [_, _, _], _ => rfl
  have k__law_drawn_plan : Binds K fd__law_drawn_plan ["_law_jug_here", "_law_words"] [] := F__law_drawn_plan.bindsN fun _ _ _ _ _ _ us hl => match us, hl with | [_, _], _ => rfl
  have k__law_right : Binds K fd__law_right ["_law_jug_here"] [] := F__law_right.bindsN fun _ _ _ _ _ _ us hl => match us, hl with | [_], _ => rfl
  have k_law : Binds K fd_law ["_law_script"] [] := F_law.bindsN fun _ _ _ _ _ _ us hl => match us, hl with | [_], _ => rfl
  have k_Plan_size : Binds K fd_Plan_size ["self"] [] := F_Plan_size.bindsN fun _ _ _ _ _ _ us hl => match us, hl with | [_], _ => rfl
  have k_Plan_text : Binds K fd_Plan_text ["self"] [] := F_Plan_text.bindsN fun _ _ _ _ _ _ us hl => match us, hl with | [_], _ => rfl
  have e_law := hfa.symm.trans g_law
  cases e_law
  have bA := FunD.bindsA (ps := ["_law_script"]) F_law fun _ _ _ _ _ _ us hl => match us, hl with | [_], _ => rfl
  simp only [ex, Bool.and_eq_true, decide_eq_true_eq] at xx
  obtain ⟨x1, x2, x3⟩ := xx
  have T : Tx mg := ⟨b_len, b_int, b_isinstance, b_abs, b_divmod, b_range, b_max, b_min, b_repr, b_all, b_list, b_tuple, b_str, b_bool, b_dict, b_enumerate, b_sorted, i_LETTERS, i_MOST_NAMES, i_FIGURES, i_FAR, b_sum, b_set, b_any⟩
  have W : PlB K (He.ga K "Plan") := ⟨z_cls, z_s, z_g, z_o, z_t⟩
  have L : PlM K mg (He.ga K "Plan") (He.ma K (He.ga K "Plan") "__init__") := ⟨Lo.ownB_ok x2 z_cls, z_mk, g_Plan⟩
  have C_is_whole := fun (base : Heap) => (⟨g_is_whole, F_is_whole.kp, k_is_whole, ok_whole T F_is_whole⟩ : Cal P w K mg base CX0 1 "is_whole" _ spWhole _ _)
  have C_is_between := fun (base : Heap) => (⟨g_is_between, F_is_between.kp, k_is_between, ok_between T F_is_between (C_is_whole base)⟩ : Cal P w K mg base CX0 2 "is_between" _ spBetween _ _)
  have C_number_in := fun (base : Heap) => (⟨g_number_in, F_number_in.kp, k_number_in, ok_nib T F_number_in⟩ : Cal P w K mg base CX0 1 "number_in" _ spNumB _ _)
  have C_knots_in := fun (base : Heap) => (⟨g_knots_in, F_knots_in.kp, k_knots_in, ok_kin T F_knots_in⟩ : Cal P w K mg base CX0 1 "knots_in" _ spKin _ _)
  have C_are_knots_right := fun (base : Heap) => (⟨g_are_knots_right, F_are_knots_right.kp, k_are_knots_right, ok_rt T F_are_knots_right⟩ : Cal P w K mg base CX0 1 "are_knots_right" _ (spRt P w) _ _)
  have C_has_needless_knot := fun (base : Heap) => (⟨g_has_needless_knot, F_has_needless_knot.kp, k_has_needless_knot, ok_nd T F_has_needless_knot⟩ : Cal P w K mg base CX0 1 "has_needless_knot" _ spNd _ _)
  have C_knot_order := fun (base : Heap) => (⟨g_knot_order, F_knot_order.kp, k_knot_order, ok_ko T F_knot_order⟩ : Cal P w K mg base CX0 1 "knot_order" _ spKo _ _)
  have C_shape_of_knots := fun (base : Heap) => (⟨g_shape_of_knots, F_shape_of_knots.kp, k_shape_of_knots, ok_sk T F_shape_of_knots⟩ : Cal P w K mg base CX0 1 "shape_of_knots" _ spSk _ _)
  have C_shape_knots := fun (base : Heap) => (⟨g_shape_knots, F_shape_knots.kp, k_shape_knots, ok_sh T F_shape_knots (C_knots_in base) (C_are_knots_right base) (C_has_needless_knot base) (C_knot_order base) (C_shape_of_knots base)⟩ : Cal P w K mg base CX0 2 "shape_knots" _ spSh _ _)
  have FI := fun (base : Heap) => (ok_pi T W F_Plan___init__ (C_shape_knots base) (C_is_between base) : FnOk P w K mg base CX0 3 _ _ ["self", "shape", "lengths", "lost"] (spPI K (He.ga K "Plan")))
  have QE := fun (base : Heap) => (⟨⟨⟨z_eq.1, z_eq.2⟩, x3, L.own.hm⟩, ok_pe T W L F_Plan___eq__, k_Plan___eq__⟩ : EqP P w K mg base (He.ga K "Plan") _ _)
  have PS := fun (base : Heap) => (⟨P_Plan_size, k_Plan_size, ok_ps T W F_Plan_size⟩ : Prp.PrC P w K mg base 1 (He.ga K "Plan") "size" (spPS K (He.ga K "Plan")) _ _ _)
  have PT := fun (base : Heap) => (⟨P_Plan_text, k_Plan_text, ok_px T W F_Plan_text⟩ : Prp.PrC P w K mg base 1 (He.ga K "Plan") "text" (spPX K (He.ga K "Plan")) _ _ _)
  have C_check_plan := fun (base : Heap) => (⟨g_check_plan, F_check_plan.kp, k_check_plan, ok_ckp T W L F_check_plan⟩ : Cal P w K mg base CX0 1 "check_plan" _ (spCkP K (He.ga K "Plan")) _ _)
  have C_plan_key := fun (base : Heap) => (⟨g_plan_key, F_plan_key.kp, k_plan_key, ok_pk T W (PS base) F_plan_key⟩ : Cal P w K mg base CX0 3 "plan_key" _ (spPk K (He.ga K "Plan")) _ _)
  have MM := fun (base : Heap) => (⟨⟨z_comes_before, ok_cb T F_Plan_comes_before (C_check_plan base) (C_plan_key base), k_Plan_comes_before, Rv.kbn1 F_Plan_comes_before ["other"] fun _ _ _ _ _ _ u us hl => match us, hl with | [_], _ => rfl⟩⟩ : MtS P w K mg base (He.ga K "Plan") _ _)
  have C_plan_in := fun (base : Heap) => (⟨g_plan_in, F_plan_in.kp, k_plan_in, ok_pn T W L (FI base) k_Plan___init__ F_plan_in (C_shape_knots base) (C_number_in base)⟩ : Cal P w K mg base CX0 5 "plan_in" _ (spPn K (He.ga K "Plan")) _ _)
  have C_read_plan := fun (base : Heap) => (⟨g_read_plan, F_read_plan.kp, k_read_plan, ok_rp T F_read_plan (C_plan_in base)⟩ : Cal P w K mg base CX0 6 "read_plan" _ (spPn K (He.ga K "Plan")) _ _)
  have C__law_take := fun (base : Heap) => (⟨g__law_take, F__law_take.kp, k__law_take, ok_take T F__law_take⟩ : Cal P w K mg base CX0 1 "_law_take" _ spTake _ _)
  have C__law_one_of := fun (base : Heap) => (⟨g__law_one_of, F__law_one_of.kp, k__law_one_of, ok_one T F__law_one_of (C__law_take base)⟩ : Cal P w K mg base CX0 2 "_law_one_of" _ spPick _ _)
  have C__law_jug := fun (base : Heap) => (⟨g__law_jug, F__law_jug.kp, k__law_jug, ok_jug T F__law_jug⟩ : Cal P w K mg base CX0 1 "_law_jug" _ (spJug K) _ _)
  have C__law_drawn_cells := fun (base : Heap) => (⟨g__law_drawn_cells, F__law_drawn_cells.kp, k__law_drawn_cells, ok_dc T F__law_drawn_cells (C__law_take base) (C__law_one_of base)⟩ : Cal P w K mg base CX0 3 "_law_drawn_cells" _ (spDraw K) _ _)
  have C__law_drawn_store := fun (base : Heap) => (⟨g__law_drawn_store, F__law_drawn_store.kp, k__law_drawn_store, ok_ds T F__law_drawn_store (C__law_drawn_cells base) (C__law_one_of base)⟩ : Cal P w K mg base CX0 4 "_law_drawn_store" _ (spDS K) _ _)
  have C__law_arrows := fun (base : Heap) => (⟨g__law_arrows, F__law_arrows.kp, k__law_arrows, ok_aw T F__law_arrows⟩ : Cal P w K mg base CX0 1 "_law_arrows" _ (spArr K) _ _)
  have C__law_gone_along := fun (base : Heap) => (⟨g__law_gone_along, F__law_gone_along.kp, k__law_gone_along, ok_ga T F__law_gone_along⟩ : Cal P w K mg base CX0 1 "_law_gone_along" _ (spGA K) _ _)
  have C__law_knots := fun (base : Heap) => (⟨g__law_knots, F__law_knots.kp, k__law_knots, ok_kn T F__law_knots (C__law_gone_along base)⟩ : Cal P w K mg base CX0 2 "_law_knots" _ (spKn K) _ _)
  have C__law_plan := fun (base : Heap) => (⟨g__law_plan, F__law_plan.kp, k__law_plan, ok_pl T F__law_plan (C__law_arrows base) (C__law_knots base)⟩ : Cal P w K mg base CX0 3 "_law_plan" _ (spPl K) _ _)
  have C__law_plan_text := fun (base : Heap) => (⟨g__law_plan_text, F__law_plan_text.kp, k__law_plan_text, ok_pt T F__law_plan_text⟩ : Cal P w K mg base CX0 1 "_law_plan_text" _ (spPT K) _ _)
  have C__law_drawn_plan := fun (base : Heap) => (⟨g__law_drawn_plan, F__law_drawn_plan.kp, k__law_drawn_plan, ok_dp T F__law_drawn_plan (C__law_take base) (C__law_one_of base)⟩ : Cal P w K mg base CX0 3 "_law_drawn_plan" _ (spDP K) _ _)
  have C__law_right := fun (base : Heap) => (⟨g__law_right, F__law_right.kp, k__law_right, ok_right T W L (FI base) k_Plan___init__ (QE base) (MM base) (PT base) (PS base) F__law_right (C__law_take base) (C__law_one_of base) (C__law_drawn_store base) (C__law_plan base) (C__law_drawn_plan base) (C__law_plan_text base) (C_read_plan base) w_read_plan⟩ : CalG P w K mg base CX0 8 "_law_right" _ spG _ _)
  exact ⟨fd_law, fun s v => bA s [v] rfl, fun base _ _ => ok_law T F_law (C__law_right base) (C__law_jug base)⟩
end K10H
open PySem PySem.W PySem.Calls PyProof.Rows
theorem PySem.Challenge.cw_arrowcells_k10_orders_of_plans_holds : PySem.Challenge.rw_arrowcells_k10_orders_of_plans.Holds := by
  w_on; o_law
  refine HandSHeadRun.head_any (r := OpenLaw.row PySem.Challenge.rw_arrowcells_k10_orders_of_plans) (q := view (OpenLaw.row PySem.Challenge.rw_arrowcells_k10_orders_of_plans).prog [42]) (H := K10H.hk) (ob := K10H.ob) (M := 6000) (loose := K10H.nm) (d := HandSHeadRun.topDef (OpenLaw.row PySem.Challenge.rw_arrowcells_k10_orders_of_plans).prog 42) (kwd := []) K10H.ob_eq
    (by kernel_rfl) (fun s => by kernel_rfl) K10H.run (by kernel_rfl) (by kernel_rfl) (by kernel_rfl) (by rfl) (by first | assumption | decide +kernel) (by decide +kernel) ⟨rfl, rfl, rfl, rfl, rfl, by decide +kernel⟩ ?hw ?hc
  case hw => w_witness2
  case hc =>
    refine Ga.walk_G (l := PySem.Challenge.rw_arrowcells_k10_orders_of_plans) (n := 63) (k := 9) (x := "_law_script") (CX := fun _ => L2.CX0) rfl (by decide) (by kernel_rfl) ⟨rfl, by decide, by decide⟩ ?F (fun _ _ _ _ _ z => z)
    intro w mg fa h Y G hmg0
    obtain ⟨K, KX, c, cx, pp⟩ := Y
    have hmg : mg ("law" : PySem.Str) = some (.ref fa) := by
      have e : (HandSHeadRun.topDef (OpenLaw.row PySem.Challenge.rw_arrowcells_k10_orders_of_plans).prog 42).name = ("law" : PySem.Str) := by kernel_rfl
      rw [← e]
      exact hmg0
    obtain ⟨fd, hb, hF⟩ := K10H.facts (P := (PySem.Challenge.rw_arrowcells_k10_orders_of_plans).prog) (w := w) KX G hmg c cx pp
    exact ⟨K, fd, K10.spLaw K, KX, hb, fun H a ns hl _ hS => ⟨a, ns, rfl, hS, hl, fun _ => rfl⟩, hF⟩

