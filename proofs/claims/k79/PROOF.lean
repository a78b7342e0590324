import PyProof.Rows.All
import Wide.All
import OpenK.AllK
import Wide.FinOn
import HandS.ForMost
import HandS.Defaults
import HandS.WordsExc
import HandS.HeadHook1
import HandS.HeadHook2
import HandS.Style
import HandS.Wide
import HandS.WideBits
import HandS.Gcd
import HandS.IsInst
import HandS.Exc
import HandS.ExcOwn
import HandS.ExcInit
import HandS.ExcField
import HandS.TryOnly
import HandS.FStr
import HandS.RaiseMore
import PyProof.ReprRoads
import HandS.NoneIn
import PyProof.ReprLen
import PyProof.StrLawsRepr
import HandS.ExcIs
import KE.KExcIs
import HandS.TupAny
import PyProof.EqAt
import PyProof.P3In
import PyProof.NeKinds
import PyProof.ListStr
import PySem.Challenge.RW_arrowcells_k79_whole_arrows_and_lost_rin
import HandS.Walk
import HandS.Conv
import HandS.Text
import HandS.Deep
import HandS.Property
import HandS.OwnEq
import KE.KRevSl
import HandS.MakeKw
import HandS.Iter
import HandS.Dict
import KE.KDictPairs
import KE.GoesEnum
import HandS.ForSpec
import HandS.SortRule
import HandS.SetFor
import HandS.Strs
import KE.KSortTupUse
import KE.KStateDown
import Lean
import HandS.Head0
import HandS.Head1
import HandS.Head2
import HandS.Head3
import HandS.HeadEnd
set_option Elab.async false
set_option linter.all false
set_option maxRecDepth 100000
set_option maxHeartbeats 2000000
namespace Ga
open PySem PySem.Spec PyProof.Rows L2
/-- a def's promise where no repr is under way -/
structure FnG (P : Program) (w : World) (K : PySem.W.Frag) (mg : Str → Option Value) (base : Heap) (CX : CXT) (k : Nat) (f : Addr) (fd : FuncData) (ps : List Str) (sp : Sp) : Prop where
  cnt : ∀ vs H Q E, sp vs H Q E → vs.length = ps.length
  go : ∀ (A : Around) (ev : List Env) (s : Shared) (H : Hp) (ar : Args) (us : List Value) (vs : List V) (Q : VK) (E : XK),
    A.guards = some [] → Room k A → Env0 P w K mg base A ev s H → BindsTo s fd ar (ps.zip us) → Vals vs us →
    sp vs H Q E → codeAny (model P w) A (.call (.ref f) ar) (CR CX ev P w H s Q E) s
section
variable {P : Program} {w : World} {K : PySem.W.Frag} {mg : Str → Option Value} {base : Heap} {CX : CXT} {k : Nat} {f : Addr} {fd : FuncData} {ps : List Str} {sp : Sp}
theorem FnG.of (F : FnOk P w K mg base CX k f fd ps sp) : FnG P w K mg base CX k f fd ps sp :=
  ⟨F.len, fun A ev s H ar us vs Q E _ => F.run A ev s H ar us vs Q E⟩
theorem FnG.mk' {params : Arguments} {body : List Stmt} {sc : Scope} {x qual : Str} {dvs : List V} {kws : List (Str × V)} {N : List Str}
    (F : FunD K x qual params body sc dvs kws f fd) (S : FnScope N ps sc) (cnt : ∀ vs H Q E, sp vs H Q E → vs.length = ps.length)
    (hb : ∀ (cdv : Value) (A : Around) (ev : List Env) (s : Shared) (H : Hp) (vs : List V) (Q : VK) (E : XK), A.guards = some [] →
      Room k (A.deeper (envOfC qual sc s.heap.objs.size f cdv)) → sp vs H Q E →
      ∃ t, PSs (cxOf CX P w K mg base N qual sc f cdv A ev s H E) body t ∧ t { nx := fun _ H' => Q .non H', rt := Q } (start N vs) H) :
    FnG P w K mg base CX (k + 1) f fd ps sp := by
  obtain ⟨oc, od, dV, kV, doc, pm, an, cdv, ct, sl, e, lk, hcd, _, _⟩ := F.ex
  subst e
  refine ⟨cnt, ?_⟩
  intro A ev s H ar us vs Q E hg hr e0 hbi rv hsp
  have hk : K.In s.heap := e0.mod.kin.keeps (fun b o q => (e0.bs b o q).1)
  have hl : s.heap.NoLimit := e0.mod.nolimit.keeps (fun b o q => (e0.bs b o q).1)
  refine codeAny_call_function hr.depth (hk _ _ lk) rfl S.co S.gen rfl
    (PySem.W.codeRec_of hk hcd) (hbi _ _ _ _ ?_)
  refine wpAny_newFunctionEnv_cells S.kind ?_ ?_
  · rintro ⟨n, v⟩ hy
    have hp := S.par n (List.of_mem_zip hy).1
    cases hp with
    | inl q => exact .inl q
    | inr q => exact .inr ⟨q, PySem.W.cellsFrom_some _ _ _ (.inl q)⟩
  intro env he s1 x
  subst he
  refine ⟨hl.keeps x.toInCall.keep, codeAny_func ?_⟩
  obtain ⟨t, ht, hq⟩ := hb cdv A ev s H vs Q E hg (hr.deeper _) hsp
  have I := inv_start (CX := CX) (E := E) S hr.hd e0 (cnt _ _ _ _ hsp) rv x
  refine wpAny_mono (ht.run [] s1 _ H _ I hq) ?_ (fun _ _ z => z)
  intro fl s' hs
  cases fl with
  | brk => obtain ⟨_, _, _, q⟩ := hs; exact q.elim
  | cont => obtain ⟨_, _, _, q⟩ := hs; exact q.elim
  | next =>
    obtain ⟨_, H', J, q⟩ := hs
    exact ⟨.non, H', J.os, J.bare, J.base, J.hok, rfl, q⟩
  | ret u =>
    obtain ⟨v, _, H', J, r, q⟩ := hs
    exact ⟨v, H', J.os, J.bare, J.base, J.hok, r, q⟩
end
section
variable {X : Cx} {CX : CXT} {k : Nat} {f : Addr} {fd : FuncData} {ps : List Str} {sp : Sp} {E : XK} {x : Str} {p pos : Pos} {e : Expr} {es : List Expr} {t : TA} {ds : List Value} {dvs : List V}
theorem run_fnG {pins : List (Addr × Obj)} {σ : L2.St} {H : Hp} {s : Shared} {Q : VK} {us : List Value} {vs : List V} (F : FnG X.prog X.w X.K X.mg X.base CX k f fd ps sp) (hG : X.A.guards = some []) (hr : Room k X.A)
    (hb : Binds X.K fd ps ds) (hd : Vals dvs ds) (hx : Passes CX X E) (I : Inv X pins σ H s) (r : Vals vs us) (h : sp (vs ++ dvs) H Q E) : wpAny (model X.prog X.w) X.A (call (.ref f) us) (EP X pins σ Q) X.xe s := by
  have r2 := Vals.append r hd
  refine wpAny_call (codeAny_mono (F.go X.A X.stack s H ⟨us, []⟩ (us ++ ds) (vs ++ dvs) Q E hG hr I.env0
    (hb s us I.kIn (r2.length.symm.trans (F.cnt _ _ _ _ h))) r2 h) ?_)
  intro res s' hq
  cases res with
  | error er => exact hx pins σ H s er s' I hq
  | ok fl =>
    cases fl <;> first
      | exact I.after hq
      | exact hq.elim
theorem pe_callG (F : FnG X.prog X.w X.K X.mg X.base CX k f fd ps sp) (hG : X.A.guards = some []) (hr : Room k X.A) (hg : Gl X x) (hm : X.mg x = some (.ref f))
    (hk : PySem.W.keepIn X.K (.ref f) = true) (hb : Binds X.K fd ps ds) (hd : Vals dvs ds) (hx : Passes CX X E) (ha : PA X (e :: es) t)
    (hdb : (x == ("__debug__" : Str)) = false := by decide)
    (he : starEach (e :: es) X.env = (false, eval e X.env) :: starEach es X.env := by rfl)
    (hpl : (backTo pos (starEach es X.env)).any (·.1) = false := by rfl) : PE X (.Call (.Name x p) (e :: es) [] pos) (tCall sp dvs E t) := by
  constructor
  intro pins s σ H Q I h
  refine wpAny_Call_Name_kw (ld_glob I hg hm ?_ hdb)
  refine PySem.W.callWith_K (h₀ := X.base) I.ok.mod.kin hk ?_ he hpl
  refine thn (ha.run pos pins s σ H _ I h) ?_
  rintro us s1 ⟨vs, H1, I1, r, q⟩
  exact ⟨I1.kIn, run_fnG F hG hr hb hd hx I1 r q⟩
end
/-! ### repr of data -/
def dpt : PyData → Nat := PyData.depth
def rRepr (K : PySem.W.Frag) : List V → Hp → VK → Prop := fun xs H Q => ∃ (x : V) (d : PyData), xs = [x] ∧ Dp K H x d ∧ d.showable = true ∧ d.hasDict = false ∧ d.depth ≤ 50 ∧ d.shown.length ≤ sizeLine ∧ (∀ i, d = .int i → i.natAbs.log2 < 1920) ∧ Q (.str d.shown) H
theorem call_repr {X : Cx} {k : Nat} (hG : X.A.guards = some []) (hr : Room k X.A) : CallR X (.builtin "repr") (rRepr X.K) := by
  intro pins s σ H xs us Q I rv h
  obtain ⟨x, d, rfl, hd, hs, hn, hdp, hz, hi, q⟩ := h
  cases rv with
  | cons rx rn =>
    cases rn
    have fin : ∀ (tk : Nat) (u : Tok), EP X pins σ Q (.str d.shown u) { s with toks := tk } := fun tk u => ⟨.str d.shown, H, I.tok _, ⟨u, rfl⟩, q⟩
    obtain ⟨as, rd⟩ := Dp.reads I d x _ hd rx
    have hu := hr.units
    cases hd with
    | non => cases rx; exact PySem.P.repr_of_none (fin _ _)
    | bl b => cases rx; cases b <;> exact PySem.P.repr_of_bool (fin _ _)
    | int i => obtain ⟨t, rfl⟩ := rx; exact PySem.P.repr_of_int (hi i rfl) (fin _ _)
    | str y => obtain ⟨t, rfl⟩ := rx; exact PySem.P.repr_of_str (fin _ _) hz
    | lst ha hb =>
      cases rx
      refine repr_of_reads' rd hs (fun z => ?_) hG (by omega) (fun _ _ z => z) (fun h' u tk hk => ?_) hz
      · rw [hn] at z; cases z
      · exact ⟨.str _, H, I.kept (t' := tk) hk, ⟨u, rfl⟩, q⟩
    | tup ha hb =>
      cases rx
      refine repr_of_reads' rd hs (fun z => ?_) hG (by omega) (fun _ _ z => z) (fun h' u tk hk => ?_) hz
      · rw [hn] at z; cases z
      · exact ⟨.str _, H, I.kept (t' := tk) hk, ⟨u, rfl⟩, q⟩
/-! ### the law's end -/
theorem end_G {P : Program} {w : World} {K : PySem.W.Frag} {mg mb : Str → Option Value} {CX : CXT} {k : Nat} {fa a : Addr} {fd : FuncData} {x : Str} {sp : Sp} {s1 : Shared} {vs : List Value} {ns : List Int}
    (KX : K.In s1.heap) (hns : s1.heap.Ns mainGlobals mg) (hbn : s1.heap.Ns builtinsNs mb) (hbb : ∀ x : Str, x ≠ "__name__" → mb x = bootBuiltins x) (hlim : s1.heap.NoLimit) (hg : s1.gens = #[])
    (ha : s1.heap.get? a = some { cls := .type "list", data := .seq vs.toArray }) (hi : IntsAre vs ns) (hl : ns.length ≤ sizeLine) (hr : Room k callerA)
    (F : ∀ base : Heap, K.In base → base.Ns mainGlobals mg → FnG P w K mg base CX k fa fd [x] sp) (hbind : ∀ (s : Shared) (u : Value), BindsTo s fd ⟨[u], []⟩ [(x, u)])
    (hsp : ∀ H : Hp, Only H → SqL K H a (ns.map V.int) → sp [.ref a] H (fun v _ => v = .bl true) fun _ _ _ => False)
    (hCX : ∀ H e s', CX [] H s1 (fun _ _ _ => False) e s' → False) :
    codeAny (model P w) callerA (.call (.ref fa) ⟨[.ref a], []⟩)
      (fun r s' => r = .ok (.ret (.bool true)) ∧ OldK s1.heap s'.heap ∧ s'.os = s1.os ∧ AllBare s'.gens) s1 := by
  let ob : Obj := { cls := .type "list", data := .seq vs.toArray }
  have rv : Vals (ns.map V.int) vs := vals_ints hi
  have main : ∀ H : Hp, (∀ b, H b = none ∨ (b = a ∧ K.lookup a = none ∧ H b = some (.frz ob (.lst (ns.map V.int))))) → SqL K H a (ns.map V.int) →
      codeAny (model P w) callerA (.call (.ref fa) ⟨[.ref a], []⟩)
        (fun r s' => r = .ok (.ret (.bool true)) ∧ OldK s1.heap s'.heap ∧ s'.os = s1.os ∧ AllBare s'.gens) s1 := by
    intro H hH hS
    have hok : HOk P w H s1.heap := by
      intro b u e
      rcases hH b with z | ⟨rfl, _, z⟩
      · rw [e] at z; cases z
      · rw [e] at z; cases z
        exact ⟨ha, by rw [List.length_map]; exact hl, vs, _, rv, ha⟩
    have nsH : ∀ {b : Addr} {m : Str → Option Value}, s1.heap.Ns b m → (hidT s1.heap H).Ns b m := by
      rintro b m ⟨o, es, ep, e, d, r⟩
      refine ⟨o, es, ep, hidT_get e ?_, d, r⟩
      rcases hH b with z | ⟨rfl, _, z⟩
      · exact z
      · rw [ha] at e; cases e; cases (show Data.seq vs.toArray _ = Data.dict es ep from d)
    have kB : K.In (hidT s1.heap H) := by
      intro b o e
      refine hidT_get (KX b o e) ?_
      rcases hH b with z | ⟨rfl, n, z⟩
      · exact z
      · rw [n] at e; cases e
    obtain ⟨mc, l1, l2⟩ := hlim
    have e0 : Env0 P w K mg (hidT s1.heap H) callerA [] s1 H :=
      ⟨rfl, ⟨kB, nsH hns, ⟨mb, nsH hbn, hbb⟩, ⟨mc, nsH l1, l2⟩⟩, fun b o e => of_hidT e, by rw [hidT_size]; exact Nat.le_refl _, trivial, fun b hb => (nomatch hb), hok, .of_eq hg⟩
    have hO : Only H := by
      intro b
      rcases hH b with z | ⟨_, _, z⟩
      · exact .inl z
      · exact .inr ⟨_, _, z⟩
    refine codeAny_mono ((F _ kB (nsH hns)).go callerA [] s1 H ⟨[.ref a], []⟩ [.ref a] [.ref a] _ _ rfl hr e0 (hbind s1 (.ref a)) (.cons rfl .nil) (hsp H hO hS)) ?_
    intro r s' h
    match r, h with
    | .error e, h => exact (hCX H e s' h).elim
    | .ok (.ret u), h =>
      obtain ⟨v, H', os, bare, un, hok', r', q⟩ := h
      subst q
      cases r'
      refine ⟨rfl, OldK.of_keep ?_, os, bare⟩
      intro b o e
      rcases hH b with z | ⟨rfl, _, z⟩
      · exact un.keep b o e z (fun hm => nomatch hm) (fun hm => nomatch hm)
      · have z2 := un.frzs _ _ _ z
        have y := (hok' _ _ z2).1
        rw [ha] at e; cases e
        exact y
    | .ok .next, h => exact h.elim
    | .ok .brk, h => exact h.elim
    | .ok .cont, h => exact h.elim
  cases hk : K.lookup a with
  | some o =>
    have e := KX a o hk
    rw [ha] at e
    cases e
    exact main (fun _ => none) (fun _ => .inl rfl) (.inr ⟨_, vs.toArray, _, hk, rfl, rfl, rfl, by rw [List.size_toArray, hi.length]; exact hl, rv⟩)
  | none =>
    refine main (fun b => if b = a then some (.frz ob (.lst (ns.map V.int))) else none) (fun b => ?_) (.inl (.inr ⟨ob, if_pos rfl⟩))
    by_cases hb : b = a
    · exact .inr ⟨hb, hk, if_pos hb⟩
    · exact .inl (if_neg hb)
theorem walk_G {l : PySem.W.OpenLaw} {n k : Nat} {q : Program} {loose : List Str} {XP : (Str → Option Value) → Heap → Prop} {YP : World → Heap → Prop} {d : DefRec} {CX : World → CXT} {x : Str}
    (hn : l.most = some n) (hn2 : n ≤ sizeLine) (hdf : d.params.defaults = []) (hr : Room k callerA)
    (F : ∀ (w : World) (mg : Str → Option Value) (fa : Addr) (h : Heap), YP w h → h.Ns mainGlobals mg → mg d.name = some (.ref fa) →
      ∃ (K : PySem.W.Frag) (fd : FuncData) (sp : Sp), K.In h ∧ (∀ (s : Shared) (u : Value), BindsTo s fd ⟨[u], []⟩ [(x, u)]) ∧
        (∀ (H : Hp) (a : Addr) (ns : List Int), ns.length ≤ n → Only H → SqL K H a (ns.map V.int) → sp [.ref a] H (fun v _ => v = .bl true) fun _ _ _ => False) ∧
        ∀ base : Heap, K.In base → base.Ns mainGlobals mg → FnG l.prog w K mg base (CX w) k fa fd [x] sp)
    (hCX : ∀ (w : World) (H : Hp) (s : Shared) (e : Value) (s' : Shared), CX w [] H s (fun _ _ _ => False) e s' → False) :
    PySem.W.WalkO q loose XP YP l.row.toRowW d [] (fun f vs => PySem.call f vs) := by
  refine Att.attach_call hn hdf ?_
  intro w s0 s1 mg mb fa o pm cd doc a vs ns G Y ho hd hcd hmg hobj hints hlen hg
  obtain ⟨K, fd, sp, KX, hb, hsp, hF⟩ := F w mg fa _ Y G.T.g hmg
  exact end_G KX G.T.g G.T.b G.T.builtins G.T.nolimit hg hobj hints (Nat.le_trans hlen hn2) hr hF hb
    (fun H hO hS => hsp H a ns hlen hO hS) (fun H e s' => hCX w H s1 e s')
/-! ### a head's facts with one more Bool -/
open He in
abbrev AlM : Type := AlD × Bool
open He in
def obsM (n : Nat) (fa : List Fa) (fn : List DefD) (ex : PySem.W.Frag → Bool) (g : Addr → Option Obj) : AlM := (obsD fa fn (frG g (asD g n)), ex (frG g (asD g n)))
open He in
def hookM (n : Nat) (fa : List Fa) (fn : List DefD) (ex : PySem.W.Frag → Bool) : PySem.W.Hook where
  α := AlM
  obs := fun s => obsM n fa fn ex s.heap.get?
  val := fun _ => (valD fn, true)
  says := fun _ h => ∃ K : PySem.W.Frag, K.In h ∧ SaysD fa fn K ∧ ex K = true
  of := fun _ _ e => ⟨_, frG_in, congrArg Prod.fst e, congrArg Prod.snd e⟩
  keeps := fun _ _ _ ⟨K, hK, c⟩ k => ⟨K, PySem.W.Frag.In.keeps hK k, c⟩
open He in
theorem obsM_eq {n : Nat} {fa : List Fa} {fn : List DefD} {ex : PySem.W.Frag → Bool} {g : Addr → Option Obj} {s : Shared} (h : ∀ a, g a = s.heap.get? a) : obsM n fa fn ex g = (hookM n fa fn ex).obs s := by
  obtain rfl : g = s.heap.get? := funext h
  rfl
end Ga

set_option Elab.async false
set_option linter.all false
set_option maxRecDepth 100000
set_option maxHeartbeats 2000000
/-! readings, written out where they are applied -/
namespace Rd
open PySem PySem.Spec PyProof.Rows L2
section
variable {σ : L2.St} {H : Hp} {Q : VK} {D : Ends} {ta tb tc te to ti : TE} {r r' : R2} {t u : TS} {tt tu : TT} {QB : Bool → Hp → Prop} {QL : List V → Hp → Prop} {TA1 TA2 : TA} {K : PySem.W.Frag} {QS : L2.St → Hp → Prop}
theorem tVar_ {i : Nat} : tVar i σ H Q = ∃ v, σ[i]? = some (some v) ∧ Q v H := rfl
theorem tC_ {v : V} : tC v σ H Q = Q v H := rfl
theorem tOp_ : tOp r ta tb σ H Q = ta σ H fun x H1 => tb σ H1 fun y H2 => r x y H2 Q := rfl
theorem tUn_ {f : V → Hp → VK → Prop} : tUn f ta σ H Q = ta σ H fun x H1 => f x H1 Q := rfl
theorem rI_ {C : Int → Int → Prop} {g : Int → Int → V} {x y : V} : rI C g x y H Q = ∃ i j, x = .int i ∧ y = .int j ∧ C i j ∧ Q (g i j) H := rfl
theorem rI0_ {g : Int → Int → V} {x y : V} : rI0 g x y H Q = ∃ i j, x = .int i ∧ y = .int j ∧ Q (g i j) H := rfl
theorem rU_ {g : Int → V} {x : V} : rU g x H Q = ∃ i, x = .int i ∧ Q (g i) H := rfl
theorem rEq_ {x y : V} : rEq x y H Q = (scal x y = true ∧ Q (.bl (decide (x = y))) H) := rfl
theorem rNe_ {x y : V} : rNe x y H Q = (scal x y = true ∧ Q (.bl (!decide (x = y))) H) := rfl
theorem tAndV_ : tAndV ta tb σ H Q = ta σ H fun x H1 => ∃ c, x = .bl c ∧ if c = true then tb σ H1 Q else Q (.bl false) H1 := rfl
theorem tOrV_ : tOrV ta tb σ H Q = ta σ H fun x H1 => ∃ c, x = .bl c ∧ if c = true then Q (.bl true) H1 else tb σ H1 Q := rfl
theorem tNotV_ : tNotV ta σ H Q = ta σ H fun x H1 => ∃ c, x = .bl c ∧ Q (.bl (!c)) H1 := rfl
theorem tIf_ : tIf tt ta tb σ H Q = tt σ H fun c H1 => if c = true then ta σ H1 Q else tb σ H1 Q := rfl
theorem tTest_ : tTest ta σ H QB = ta σ H fun x H' => ∃ k, x = .bl k ∧ QB k H' := rfl
theorem tB_ : tB ta σ H QB = ta σ H fun x H1 => ∃ c, x = .bl c ∧ QB c H1 := rfl
theorem tAnd_ : tAnd tt tu σ H QB = tt σ H fun c H1 => if c = true then tu σ H1 QB else QB false H1 := rfl
theorem tOr_ : tOr tt tu σ H QB = tt σ H fun c H1 => if c = true then QB true H1 else tu σ H1 QB := rfl
theorem tNot_ : tNot tt σ H QB = tt σ H fun c H1 => QB (!c) H1 := rfl
theorem tChain_ : tChain r r' ta tb tc σ H Q = ta σ H fun x H1 => tb σ H1 fun y H2 => r x y H2 fun z H3 => ∃ k, z = .bl k ∧ (if k = true then tc σ H3 fun w' H4 => r' y w' H4 Q else Q (.bl false) H3) := rfl
theorem tNil_ : tNil σ H QL = QL [] H := rfl
theorem tCons_ : tCons ta TA1 σ H QL = ta σ H fun x H1 => TA1 σ H1 fun xs H2 => QL (x :: xs) H2 := rfl
theorem tTup_ : tTup TA1 σ H Q = TA1 σ H fun xs H1 => xs.length ≤ sizeLine ∧ ∀ p, H1 p = none → Q (.ref p) (upd H1 p (.tup xs)) := rfl
theorem tLst_ : tLst TA1 σ H Q = TA1 σ H fun xs H1 => xs.length ≤ sizeLine ∧ ∀ p, H1 p = none → Q (.ref p) (upd H1 p (.lst xs)) := rfl
theorem tCB_ {f : List V → Hp → VK → Prop} : tCB f TA1 σ H Q = TA1 σ H fun vs H1 => f vs H1 Q := rfl
theorem tCall_ {sp : Sp} {dvs : List V} {E : XK} : tCall sp dvs E TA1 σ H Q = TA1 σ H fun vs H1 => sp (vs ++ dvs) H1 Q E := rfl
theorem tSeq_ : tSeq t u D σ H = t { D with nx := u D } σ H := rfl
theorem tNext_ : tNext D σ H = D.nx σ H := rfl
theorem tRet_ : tRet ta D σ H = ta σ H D.rt := rfl
theorem tRetN_ : tRetN D σ H = D.rt .non H := rfl
theorem tDrop_ : tDrop ta D σ H = ta σ H fun _ H1 => D.nx σ H1 := rfl
theorem tNever_ : tNever D σ H = False := rfl
theorem tBreak_ : tBreak D σ H = D.bk σ H := rfl
theorem tIfS_ : tIfS tt t u D σ H = tt σ H fun b H1 => if b = true then t D σ H1 else u D σ H1 := rfl
theorem tAsg_ {g : TG} : tAsg ta g D σ H = ta σ H fun x H1 => g x σ H1 D.nx := rfl
theorem gName_ {i : Nat} {v : V} : gName i v σ H QS = QS (σ.set i (some v)) H := rfl
theorem gTup_ {n : Nat} {g : TGs} {v : V} : gTup K n g v σ H QS = ∃ a xs, v = .ref a ∧ SqT K H a xs ∧ xs.length = n ∧ g xs σ H QS := rfl
theorem gCons_ {g : TG} {gs : TGs} {vs : List V} : gCons g gs vs σ H QS = ∃ v r, vs = v :: r ∧ g v σ H fun σ' H' => gs r σ' H' QS := rfl
theorem gNil_ {vs : List V} : gNil vs σ H QS = (vs = [] ∧ QS σ H) := rfl
theorem gSub_ {s : TSet} {v : V} : gSub to ti s v σ H QS = to σ H fun o H1 => ti σ H1 fun i H2 => s o i v H2 fun H3 => QS σ H3 := rfl
theorem tPar_ {i j : Nat} : tPar i j TA1 D σ H = TA1 σ H fun vs H1 => ∃ v w, vs = [v, w] ∧ D.nx ((σ.set i (some v)).set j (some w)) H1 := rfl
theorem tPar3_ {i j l : Nat} : tPar3 i j l TA1 D σ H = TA1 σ H fun vs H1 => ∃ u v w, vs = [u, v, w] ∧ D.nx (((σ.set i (some u)).set j (some v)).set l (some w)) H1 := rfl
theorem tSl_ {f : V → Option Int → Option Int → Hp → VK → Prop} {tl th : TO} : tSl f te tl th σ H Q = te σ H fun x H1 => tl σ H1 fun l H2 => th σ H2 fun u H3 => f x l u H3 Q := rfl
theorem tNoPart_ {Q : Option Int → Hp → Prop} : tNoPart σ H Q = Q none H := rfl
theorem tPart_ {Q : Option Int → Hp → Prop} : tPart ta σ H Q = ta σ H fun x H1 => ∃ i, x = .int i ∧ Q (some i) H1 := rfl
theorem tBM_ {T : String} {f : V → List V → Hp → VK → Prop} : tBM K T f to TA1 σ H Q = to σ H fun x H1 => tyV K T x H1 ∧ TA1 σ H1 fun xs H2 => f x xs H2 Q := rfl
theorem tDNewK_ : tDNewK σ H Q = ∀ p, H p = none → Q (.ref p) (upd H p (.dK [])) := rfl
theorem tFor_range1 {g : TG} {tb : TS} : tFor (iRng1 TA1) g tb D σ H = TA1 σ H fun vs H1 => ∃ j : Int, vs = [.int j] ∧ -(2 ^ 62) ≤ j ∧ j < 2 ^ 62 ∧ tFor (fun _ H R => R (Itr 0 j.toNat) H) g tb D σ H1 := rfl
theorem tFor_range2 {g : TG} {tb : TS} : tFor (iRng2 TA1) g tb D σ H = TA1 σ H fun vs H1 => ∃ i j : Int, vs = [.int i, .int j] ∧ (-(2 ^ 62) ≤ i ∧ i < 2 ^ 62 ∧ -(2 ^ 62) ≤ j ∧ j < 2 ^ 62) ∧ tFor (fun _ H R => R (Itr i (j - i).toNat) H) g tb D σ H1 := rfl
theorem tFor_list {g : TG} {tb : TS} : tFor (iList K ta) g tb D σ H = ta σ H fun x H1 => ∃ a, x = .ref a ∧ (∃ xs, SqL K H1 a xs) ∧ tFor (fun _ H R => R (Itl K a) H) g tb D σ H1 := rfl
theorem tFor_tup {g : TG} {tb : TS} : tFor (iTup K ta) g tb D σ H = ta σ H fun x H1 => ∃ a, x = .ref a ∧ (∃ xs, SqT K H1 a xs) ∧ tFor (fun _ H R => R (Itt K a) H) g tb D σ H1 := rfl
end
/-- a for over a range, by an invariant -/
theorem for_r {lo : Int} {n : Nat} {g : TG} {tb : TS} {D : Ends} {σ : L2.St} {H : Hp} (Pv : Nat → L2.St → Hp → Prop) (h0 : Pv 0 σ H)
    (hs : ∀ i σ H, i < n → Pv i σ H → g (.int (lo + i)) σ H fun σ2 H2 => tb { D with nx := Pv (i + 1), ct := Pv (i + 1), bk := D.nx } σ2 H2) (hd : ∀ σ H, Pv n σ H → D.nx σ H) :
    tFor (fun _ H R => R (Itr lo n) H) g tb D σ H := for_range Pv h0 hs hd
theorem for_l {K : PySem.W.Frag} {a : Addr} {xs : List V} {g : TG} {tb : TS} {D : Ends} {σ : L2.St} {H : Hp} (Pv : Nat → L2.St → Hp → Prop) (h0 : Pv 0 σ H) (hl : ∀ i σ H, i ≤ xs.length → Pv i σ H → SqL K H a xs)
    (hs : ∀ i x σ H, xs[i]? = some x → Pv i σ H → g x σ H fun σ2 H2 => tb { D with nx := Pv (i + 1), ct := Pv (i + 1), bk := D.nx } σ2 H2) (hd : ∀ σ H, Pv xs.length σ H → D.nx σ H) :
    tFor (fun _ H R => R (Itl K a) H) g tb D σ H := for_list Pv h0 hl hs hd
/-- all but u stands as it stood -/
def But (u : Addr) (H H' : Hp) : Prop := ∀ b o, b ≠ u → H b = some o → H' b = some o
theorem But.refl {u : Addr} {H : Hp} : But u H H := fun _ _ _ e => e
theorem But.trans {u : Addr} {H H1 H2 : Hp} (a : But u H H1) (b : But u H1 H2) : But u H H2 := fun c o n e => b c o n (a c o n e)
theorem But.same {u : Addr} {H H1 : Hp} (a : Same H H1) : But u H H1 := fun c o _ e => a c o e
theorem same_new {H : Hp} {p : Addr} {o : HO} (n : H p = none) : Same H (upd H p o) := fun b u e => by rw [upd_ne (ne_of_none e n)]; exact e
theorem But.put {u : Addr} {H : Hp} {o : HO} : But u H (upd H u o) := fun b _ n e => by rw [upd_ne n]; exact e
theorem some_or {H : Hp} {a b : Addr} {o : HO} (h : H a = some o) (n : H b = none) : a ≠ b := ne_of_none h n
/-- the callee as its callers know it -/
structure Cal (P : Program) (w : World) (K : PySem.W.Frag) (mg : Str → Option Value) (base : Heap) (CX : CXT) (k : Nat) (x : Str) (ps : List Str) (sp : Sp) (f : Addr) (fd : FuncData) : Prop where
  g : mg x = some (.ref f)
  kp : PySem.W.keepIn K (.ref f) = true
  b : Binds K fd ps []
  F : FnOk P w K mg base CX k f fd ps sp
structure CalG (P : Program) (w : World) (K : PySem.W.Frag) (mg : Str → Option Value) (base : Heap) (CX : CXT) (k : Nat) (x : Str) (ps : List Str) (sp : Sp) (f : Addr) (fd : FuncData) : Prop where
  g : mg x = some (.ref f)
  kp : PySem.W.keepIn K (.ref f) = true
  b : Binds K fd ps []
  F : Ga.FnG P w K mg base CX k f fd ps sp
/-! ### an own error with one field -/
structure Er (K : PySem.W.Frag) (mg : Str → Option Value) (x n : Str) (C fI : Addr) (fdI : FuncData) : Prop where
  gC : mg x = some (.ref C)
  oex : OexC K C
  noN : PySem.W.findIn K (.ref C) n = some none
  iC : PySem.W.findIn K (.ref C) "__init__" = some (some (.ref fI))
  tI : PySem.W.typeIn K (.ref fI) = some (.type "function")
  dn : (n == ("__debug__" : Str)) = false
  dc : (n == ("__classdict__" : Str)) = false
  F : ∃ (qual : Str) (params : Arguments) (scope : Scope) (q1 q2 q3 q4 : Pos), FunD K "__init__" qual params [.Assign [.Attribute (.Name "self" q1) n q2] (.Name n q3) q4] scope [] [] fI fdI ∧ FnScope ["self", n] ["self", n] scope
  b : Binds K fdI ["self", n] []
section
variable {P : Program} {w : World} {K : PySem.W.Frag} {mg : Str → Option Value} {base : Heap} {x n : Str} {C fI : Addr} {fdI : FuncData}
def spInitE (K : PySem.W.Frag) (n : Str) (C : Addr) : Sp := fun vs H Q _ => ∃ (a : Addr) (v : V), vs = [.ref a, v] ∧ H a = some (exo a C none) ∧ ∀ dx, H dx = none → dx ≠ a → Q .non (upd (upd H dx (exd dx [(n, v)])) a (exo a C (some dx)))
theorem ok_initE (R : Er K mg x n C fI fdI) : FnOk P w K mg base CX0 1 fI fdI ["self", n] (spInitE K n C) := by
  obtain ⟨qual, params, scope, q1, q2, q3, q4, F, S⟩ := R.F
  refine F.ok S (fun vs H Q E h => ?_) (fun cdv A outer s H vs Q E hr h => ?_)
  · obtain ⟨a, v, rfl, _⟩ := h
    rfl
  · obtain ⟨a, v, rfl, ha, k⟩ := h
    have vis : ∀ y ∈ (["self", n] : List Str), scope.names.lookup y = some .local ∨ scope.names.lookup y = some .cell ∨ scope.names.lookup y = some .free := fun y hy => (S.par y hy).elim .inl fun z => .inr (.inl z)
    refine ⟨_, pss_one (ps_ost (pe_var (i := 0) rfl (vis _ (by simp))) (pe_var (i := 1) rfl (vis _ (by simp)) R.dn R.dc)), ?_⟩
    exact ⟨_, rfl, _, rfl, a, C, rfl, R.oex, R.noN, .inl ⟨ha, fun dx h1 h2 => k dx h1 h2⟩⟩
end
/-- raise X(e) -/
def tRaise (C : Addr) (n : Str) (W : WX) (te : TE) : TS := fun _ σ H => te σ H fun x H1 => ∀ d, H1 d = none → W (.ref C) (some d) σ (upd H1 d (.xd [(n, x)]))
theorem tRaise_ {C : Addr} {n : Str} {W : WX} {te : TE} {D : Ends} {σ : L2.St} {H : Hp} : tRaise C n W te D σ H = te σ H fun x H1 => ∀ d, H1 d = none → W (.ref C) (some d) σ (upd H1 d (.xd [(n, x)])) := rfl
theorem tCallS_ {sp : Sp} {E : L2.St → XK} {t : TA} {σ : L2.St} {H : Hp} {Q : VK} : tCallS sp E t σ H Q = t σ H fun vs H1 => sp vs H1 Q (E σ) := rfl
theorem mono_var {i : Nat} : ∀ σ H Q Q', (∀ x H1, Q x H1 → Q' x H1) → tVar i σ H Q → tVar i σ H Q' := fun _ _ _ _ f ⟨v, e, q⟩ => ⟨v, e, f _ _ q⟩
theorem ps_raiseE {X : Cx} {x n : Str} {C fI : Addr} {fdI : FuncData} {W : WX} {a : Expr} {te : TE} {p pos pos2 : Pos} {k : Nat} (hc : X.calm = true) (R : Er X.K X.mg x n C fI fdI) (hr : Room (k + 2) X.A) (tk : Takes X W) (ha : PE X a te)
    (mono : ∀ σ H Q Q', (∀ x H1, Q x H1 → Q' x H1) → te σ H Q → te σ H Q')
    (hg : Gl X x := by rfl) (hd : (x == ("__debug__" : Str)) = false := by decide) (he : starEach (a :: []) X.env = (false, eval a X.env) :: starEach [] X.env := by rfl) (hpl : (backTo pos (starEach [] X.env)).any (·.1) = false := by rfl) :
    PS X (.Raise (some (.Call (.Name x p) [a] [] pos)) none pos2) (tRaise C n W te) := by
  have G : FnOk X.prog X.w X.K X.mg X.base CX0 1 fI fdI ["self", n] (spInitE X.K n C) := ok_initE R
  have h := ps_raise (pos := pos2) hc tk (pmk_oex (p := p) (pos := pos) R.oex R.iC R.tI G (hr.mono (by omega)) R.b .nil (fun _ _ _ _ _ _ _ z => z.elim) hg R.gC (pa_cons ha pa_nil he) hd he hpl)
  refine ⟨fun pins s σ H D I q => h.run pins s σ H D I ?_⟩
  refine mono σ H _ _ (fun x H1 q1 => ?_) q
  refine ⟨by show 1 ≤ 1000; decide, fun b hb => ⟨b, x, rfl, upd_same, fun dx h1 h2 => ⟨rfl, dx, [(n, x)], upd_same, ?_, ?_, ?_⟩⟩⟩
  · rw [upd_ne h2, upd_same]
  · rw [upd_ne h2] at h1; exact h1
  · have h3 : H1 dx = none := by rw [upd_ne h2] at h1; exact h1
    have e : upd (del (upd (upd (upd H1 b (exo b C none)) dx (exd dx [(n, x)])) b (exo b C (some dx))) b) dx (.xd [(n, x)]) = upd H1 dx (.xd [(n, x)]) := by
      funext c
      by_cases c1 : c = dx
      · rw [c1, upd_same, upd_same]
      · rw [upd_ne c1, upd_ne c1]
        by_cases c2 : c = b
        · rw [c2, del_same, hb]
        · rw [del_ne c2, upd_ne c2, upd_ne c1, upd_ne c2]
    rw [e]
    exact q1 dx h3
/-- plain values that the checks here meet: ints, bools, None, texts, the empty tuple -/
inductive Smp (H : Hp) : V → Prop
  | non : Smp H .non
  | bl (b : Bool) : Smp H (.bl b)
  | int (i : Int) : Smp H (.int i)
  | str (x : Str) : Smp H (.str x)
  | tup {a : Addr} (h : H a = some (.tup [])) : Smp H (.ref a)
theorem Smp.up {H H' : Hp} {v : V} (h : Smp H v) (s : ∀ a, H a = some (.tup []) → H' a = some (.tup [])) : Smp H' v := by
  cases h with
  | non => exact .non
  | bl b => exact .bl b
  | int i => exact .int i
  | str x => exact .str x
  | tup h => exact .tup (s _ h)
def wholeB : V → Bool
  | .int _ => true
  | _ => false
def iv : V → Int
  | .int i => i
  | _ => 0
def btw (x : V) (lo hi : Int) : Bool := wholeB x && (decide (lo ≤ iv x) && decide (iv x ≤ hi))
theorem btw_int {i lo hi : Int} : btw (.int i) lo hi = (decide (lo ≤ i) && decide (i ≤ hi)) := by unfold btw; rfl
theorem btw_int' {i lo hi : Int} (h1 : lo ≤ i) (h2 : i ≤ hi) : btw (.int i) lo hi = true := by rw [btw_int, decide_eq_true h1, decide_eq_true h2]; rfl
theorem btw_of {x : V} {lo hi : Int} (h : btw x lo hi = true) : ∃ i, x = .int i ∧ lo ≤ i ∧ i ≤ hi := by
  cases x with
  | int i =>
    rw [btw_int, Bool.and_eq_true] at h
    exact ⟨i, rfl, of_decide_eq_true h.1, of_decide_eq_true h.2⟩
  | _ => cases h
/-! ### f(k = v, ..) -/
def tCallK (sp : Sp) (gV : List V → List V) (m : Nat) (E : XK) (tk : TA) : TE := fun σ H Q => tk σ H fun zs H1 => zs.length = m ∧ sp (gV zs) H1 Q E
theorem tCallK_ {sp : Sp} {gV : List V → List V} {m : Nat} {E : XK} {tk : TA} {σ : L2.St} {H : Hp} {Q : VK} : tCallK sp gV m E tk σ H Q = tk σ H fun zs H1 => zs.length = m ∧ sp (gV zs) H1 Q E := rfl
section
variable {X : Cx} {CX : CXT} {k : Nat} {f : Addr} {fd : FuncData} {ps ks : List Str} {sp : Sp} {E : XK} {x : Str} {p pos : Pos} {kws : List Keyword} {tk : TA} {g : List Value → List Value} {gV : List V → List V}
theorem pe_callKw (F : FnOk X.prog X.w X.K X.mg X.base CX k f fd ps sp) (hr : Room k X.A) (hg : Gl X x) (hm : X.mg x = some (.ref f)) (hk : PySem.W.keepIn X.K (.ref f) = true)
    (hb : KBn X.K fd ps 0 ks (fun _ ws => g ws) (fun _ zs => gV zs)) (hx : Passes CX X E) (hkw : PK X kws tk)
    (hall : (backToKw pos (keywordEach kws X.env)).all (·.1.isSome) = true := by rfl) (hks : (backToKw pos (keywordEach kws X.env)).filterMap (·.1) = ks := by rfl)
    (hdb : (x == ("__debug__" : Str)) = false := by decide)
    (hpl : ((backTo pos (starEach [] X.env)).any (·.1) || (backToKw pos (keywordEach kws X.env)).any (·.1.isNone)) = false := by rfl) :
    PE X (.Call (.Name x p) [] kws pos) (tCallK sp gV ks.length E tk) := by
  constructor
  intro pins s σ H Q I h
  refine wpAny_Call_Name_kw (ld_glob I hg hm ?_ hdb)
  refine PySem.W.callWith_KW0 (h₀ := X.base) I.ok.mod.kin hk hall ?_ hpl
  refine thn (hkw.run pos pins s σ H _ I h) ?_
  rintro ws s2 ⟨zs, H2, I2, rz, l2, q2⟩
  refine ⟨I2.kIn, ?_⟩
  rw [hks]
  exact run_fnN (us := []) (vs := []) F hr hb hx I2 .nil rz rfl l2 q2
end
theorem kbn0 {K : PySem.W.Frag} {x qual : Str} {params : Arguments} {body : List Stmt} {scope : Scope} {f : Addr} {fd : FuncData} {ps : List Str} (F : FunD K x qual params body scope [] [] f fd) (ks : List Str) (g : {α : Type} → List α → List α)
    (hrel : ∀ {vs : List V} {us : List Value}, Vals vs us → Vals (g vs) (g us))
    (h : ∀ (kV doc pm : Value) (an : Option Addr) (cdv ct : Value) (ws : List Value), ws.length = ks.length → bindArgs (PySem.W.fnOf x qual params body scope .none kV doc pm an cdv ct) ⟨[], ks.zip ws⟩ = pure (ps.zip (g ws))) :
    KBn K fd ps 0 ks (fun _ ws => g ws) (fun _ zs => g zs) := by
  obtain ⟨oc, od, dV, kV, doc, pm, an, cdv, ct, sl, e, lk, hcd, hD, hK⟩ := F.ex
  rcases hD with ⟨_, e2⟩ | ⟨z, _⟩
  · subst e2 e
    refine ⟨fun s us ws X l1 l2 => ?_, fun _ r => hrel r⟩
    obtain rfl : us = [] := List.eq_nil_of_length_eq_zero l1
    exact .of_eq (h kV doc pm an cdv ct ws l2)
  · exact absurd rfl z
theorem gUnl_ {K : PySem.W.Frag} {n : Nat} {g : TGs} {v : V} {σ : L2.St} {H : Hp} {QS : L2.St → Hp → Prop} : gUnl K n g v σ H QS = ∃ a xs, v = .ref a ∧ SqL K H a xs ∧ xs.length = n ∧ g xs σ H QS := rfl
theorem sIx_none {n d : Nat} : HT.sIx n d none = d := rfl
/-- one statement at a time -/
theorem sq {t u : TS} {D : Ends} {σ : L2.St} {H : Hp} (h : ∀ U : L2.St → Hp → Prop, (∀ σ' H', u D σ' H' → U σ' H') → t { D with nx := U } σ H) : tSeq t u D σ H := h (u D) fun _ _ x => x
theorem ite2n {a b A B : Prop} [Decidable a] [Decidable b] (h : ¬ (a ∧ b)) (hB : B) : if a then (if b then A else B) else B := by
  by_cases ha : a
  · rw [if_pos ha, if_neg (fun hb => h ⟨ha, hb⟩)]; exact hB
  · rw [if_neg ha]; exact hB
section
variable {H : Hp} {Q : VK} {i j : Int} {a b : Str} {c e : Bool}
theorem eq_ii : rEq (.int i) (.int j) H Q = Q (.bl (decide (i = j))) H := by
  have h : decide (V.int i = V.int j) = decide (i = j) := by simp
  show (_ ∧ Q (.bl (decide (V.int i = V.int j))) H) = _
  rw [h]; simp [scal]
theorem ne_ii : rNe (.int i) (.int j) H Q = Q (.bl (!decide (i = j))) H := by
  have h : decide (V.int i = V.int j) = decide (i = j) := by simp
  show (_ ∧ Q (.bl (!decide (V.int i = V.int j))) H) = _
  rw [h]; simp [scal]
theorem eq_ss : rEq (.str a) (.str b) H Q = Q (.bl (decide (a = b))) H := by
  have h : decide (V.str a = V.str b) = decide (a = b) := by simp
  show (_ ∧ Q (.bl (decide (V.str a = V.str b))) H) = _
  rw [h]; simp [scal]
theorem ne_ss : rNe (.str a) (.str b) H Q = Q (.bl (!decide (a = b))) H := by
  have h : decide (V.str a = V.str b) = decide (a = b) := by simp
  show (_ ∧ Q (.bl (!decide (V.str a = V.str b))) H) = _
  rw [h]; simp [scal]
theorem eq_bb : rEq (.bl c) (.bl e) H Q = Q (.bl (decide (c = e))) H := by
  have h : decide (V.bl c = V.bl e) = decide (c = e) := by simp
  show (_ ∧ Q (.bl (decide (V.bl c = V.bl e))) H) = _
  rw [h]; simp [scal]
theorem ne_bb : rNe (.bl c) (.bl e) H Q = Q (.bl (!decide (c = e))) H := by
  have h : decide (V.bl c = V.bl e) = decide (c = e) := by simp
  show (_ ∧ Q (.bl (!decide (V.bl c = V.bl e))) H) = _
  rw [h]; simp [scal]
end
theorem rGcd_ {vs : List V} {H : Hp} {Q : VK} : rGcd vs H Q = ∃ a b : Int, vs = [.int a, .int b] ∧ Q (.int ((Nat.gcd a.natAbs b.natAbs : Nat) : Int)) H := rfl
theorem max_if {a b : Int} : (if b > a then b else a) = max a b := by
  by_cases h : b > a
  · rw [if_pos h]; omega
  · rw [if_neg h]; omega
section
variable {K : PySem.W.Frag} {H : Hp} {Q : VK} {x y : V}
theorem rIxL_ : rIxL K x y H Q = ∃ p xs i v, x = .ref p ∧ y = .int i ∧ SqL K H p xs ∧ atI xs i = some v ∧ Q v H := rfl
theorem rIxT_ : rIxT K x y H Q = ∃ p xs i v, x = .ref p ∧ y = .int i ∧ SqT K H p xs ∧ atI xs i = some v ∧ Q v H := rfl
theorem rSlL_ {lo hi : Option Int} : rSlL K x lo hi H Q = ∃ a xs, x = .ref a ∧ SqL K H a xs ∧ ∀ p, H p = none → Q (.ref p) (upd H p (.lst (cutV xs lo hi))) := rfl
theorem rCat_ : rCat x y H Q = ∃ l b xs zs, x = .ref l ∧ y = .ref b ∧ H l = some (.lst xs) ∧ H b = some (.lst zs) ∧ xs.length + zs.length ≤ sizeLine ∧ ∀ p, H p = none → Q (.ref p) (upd H p (.lst (xs ++ zs))) := rfl
theorem rSetL_ {o i v : V} {Q : Hp → Prop} : rSetL o i v H Q = ∃ p xs k j, o = .ref p ∧ i = .int k ∧ H p = some (.lst xs) ∧ ixN xs.length k = some j ∧ Q (upd H p (.lst (xs.set j v))) := rfl
theorem atI_nn {α : Type} {xs : List α} {i : Int} {v : α} (h0 : 0 ≤ i) (h : xs[i.toNat]? = some v) : atI xs i = some v := by
  have hl : i.toNat < xs.length := (List.getElem?_eq_some_iff.mp h).1
  unfold atI ixN
  rw [if_pos h0, if_pos (by omega)]
  exact h
end
theorem rRep_ {x y : V} {H : Hp} {Q : VK} : rRep x y H Q = ∃ l k xs, x = .ref l ∧ y = .int k ∧ H l = some (.lst xs) ∧ -(2 ^ 63) ≤ k ∧ k < 2 ^ 63 ∧ xs.length * k.toNat ≤ sizeLine ∧ ∀ p, H p = none → Q (.ref p) (upd H p (.lst (List.replicate k.toNat xs).flatten)) := rfl
end Rd

set_option Elab.async false
set_option linter.all false
set_option maxRecDepth 100000
set_option maxHeartbeats 2000000
/-! data: what is compared and shown -/
namespace Dt
open PySem PySem.Spec PyProof.Rows L2 Rd
/-- data of a bounded text -/
structure Fit (d : PyData) (k n : Nat) : Prop where
  s : d.showable = true
  h : d.hasDict = false
  dp : d.depth ≤ k
  sz : d.shown.length ≤ n
  c : d.canLay0 = true
theorem Fit.mono {d : PyData} {k n k' n' : Nat} (f : Fit d k n) (h1 : k ≤ k') (h2 : n ≤ n') : Fit d k' n' := ⟨f.s, f.h, Nat.le_trans f.dp h1, Nat.le_trans f.sz h2, f.c⟩
theorem Fit.non : Fit .none 0 5 := ⟨rfl, rfl, Nat.le_refl _, by show (PyData.shown .none).length ≤ 5; unfold PyData.shown; decide +kernel, rfl⟩
theorem Fit.bl (b : Bool) : Fit (.bool b) 0 5 := ⟨rfl, rfl, Nat.le_refl _, by unfold PyData.shown; cases b <;> decide +kernel, rfl⟩
theorem Fit.int {i : Int} {k : Nat} (h0 : 0 < k) (h9 : k ≤ 1919) (h : i.natAbs < 2 ^ k) : Fit (.int i) 0 (k + 1) := by
  have lg : i.natAbs.log2 < k := by
    by_cases z : i.natAbs = 0
    · rw [z]; show Nat.log2 0 < k; rw [Nat.log2_zero]; exact h0
    · exact (Nat.log2_lt z).mpr h
  refine ⟨?_, rfl, Nat.le_refl _, ?_, rfl⟩
  · show decide (i.natAbs.log2 < 1920) = true
    exact decide_eq_true (by omega)
  · have e : (PyData.shown (.int i)) = Str.ofString (toString i) := by unfold PyData.shown; rfl
    rw [e, PySem.ofString_length]
    exact int_text_length_le h0 lg
theorem sum_le {α : Type} (f : α → Nat) (n : Nat) : ∀ l : List α, (∀ x ∈ l, f x ≤ n) → (l.map f).sum ≤ l.length * n
  | [], _ => by simp
  | x :: l, h => by
    have h1 := h x List.mem_cons_self
    have h2 := sum_le f n l fun y hy => h y (List.mem_cons_of_mem _ hy)
    rw [List.map_cons, List.sum_cons, List.length_cons, Nat.add_mul, Nat.one_mul]
    omega
theorem fitAll {k n : Nat} : ∀ {ds : List PyData}, (∀ d ∈ ds, Fit d k n) → PyData.showableAll ds = true ∧ PyData.hasDictAll ds = false ∧ PyData.depthAll ds ≤ k ∧ (∀ t ∈ PyData.shownAll ds, t.length ≤ n) ∧ (PyData.shownAll ds).length = ds.length ∧ PyData.canLayAll0 ds = true
  | [], _ => ⟨rfl, rfl, Nat.zero_le _, fun t ht => (by rw [PyData.shownAll] at ht; cases ht), (by rw [PyData.shownAll]; rfl), rfl⟩
  | d :: ds, h => by
    have f := h d List.mem_cons_self
    obtain ⟨a, b, c, e, g, l⟩ := fitAll fun x hx => h x (List.mem_cons_of_mem _ hx)
    refine ⟨by rw [PyData.showableAll, f.s, a]; rfl, by rw [PyData.hasDictAll, f.h, b]; rfl, by rw [PyData.depthAll]; have := f.dp; omega, ?_, by rw [PyData.shownAll, List.length_cons, List.length_cons, g], by rw [PyData.canLayAll0, f.c, l]; rfl⟩
    intro t ht
    rw [PyData.shownAll] at ht
    rcases List.mem_cons.mp ht with z | z
    · rw [z]; exact f.sz
    · exact e t z
theorem Fit.list {ds : List PyData} {k n : Nat} (h : ∀ d ∈ ds, Fit d k n) : Fit (.list ds) (k + 1) (ds.length * (n + 2) + 3) := by
  obtain ⟨a, b, c, e, g, l⟩ := fitAll h
  refine ⟨by rw [PyData.showable, a], by rw [PyData.hasDict, b], by rw [PyData.depth]; omega, ?_, by rw [PyData.canLay0, l]⟩
  rw [PyData.shown]
  have h1 := listText_len_le (PyData.shownAll ds)
  have h2 := sum_le (·.length) n (PyData.shownAll ds) e
  rw [g] at h1 h2
  rw [Nat.mul_add]
  omega
theorem Fit.tuple {ds : List PyData} {k n : Nat} (h : ∀ d ∈ ds, Fit d k n) : Fit (.tuple ds) (k + 1) (ds.length * (n + 2) + 3) := by
  obtain ⟨a, b, c, e, g, l⟩ := fitAll h
  refine ⟨by rw [PyData.showable, a], by rw [PyData.hasDict, b], by rw [PyData.depth]; omega, ?_, by rw [PyData.canLay0, l]⟩
  rw [PyData.shown]
  have h1 := tupleText_len_le (PyData.shownAll ds)
  have h2 := sum_le (·.length) n (PyData.shownAll ds) e
  rw [g] at h1 h2
  rw [Nat.mul_add]
  omega
theorem Fit.str {x : Str} {n : Nat} (h : x.length ≤ n) (hc : ∀ c ∈ x.cps.toList, c < 0x110000) : Fit (.str x) 0 (10 * n + 2) := by
  have e : PyData.shown (.str x) = reprText x := by unfold PyData.shown; rfl
  refine ⟨rfl, rfl, Nat.le_refl _, ?_, ?_⟩
  · rw [e]
    have := StrLaws.reprText_len x fun c hc' => Nat.lt_trans (hc c hc') (by decide)
    omega
  · show x.cps.all (· < 0x110000) = true
    rw [← Array.all_toList, List.all_eq_true]
    intro c hc'
    exact decide_eq_true (hc c hc')
theorem Fit.shaped {d : PyData} {k n : Nat} (f : Fit d k n) (h : k ≤ 64) : SeqAt.shaped d = true := by
  have := f.dp
  show (d.canLay0 && decide (d.depth ≤ 64)) = true
  rw [f.c, decide_eq_true (show d.depth ≤ 64 by omega)]; rfl
/-- repr of such data -/
theorem rRepr_fit {K : PySem.W.Frag} {H : Hp} {Q : VK} {x : V} {d : PyData} {k n : Nat} (f : Fit d k n) (hk : k ≤ 50) (hn : n ≤ 1000000) (dd : Dp K H x d) (q : Q (.str d.shown) H) : Ga.rRepr K [x] H Q := by
  have := f.dp
  have := f.sz
  refine ⟨x, d, rfl, dd, f.s, f.h, by omega, Nat.le_trans (Nat.le_trans f.sz hn) (by rw [sizeLine_eq]; decide), ?_, q⟩
  intro i e
  have z := f.s
  rw [e] at z
  exact of_decide_eq_true z
theorem Dp.ints {K : PySem.W.Frag} {H : Hp} : ∀ (ns : List Int), DpAll K H (ns.map V.int) (ns.map PyData.int)
  | [] => .nil
  | n :: ns => .cons (.int n) (Dp.ints ns)
mutual
theorem Dp.up {K : PySem.W.Frag} {H H' : Hp} (hs : Same H H') : ∀ (d : PyData) (v : V), Dp K H v d → Dp K H' v d
  | .none, _, h => by cases h; exact .non
  | .bool b, _, h => by cases h; exact .bl b
  | .int b, _, h => by cases h; exact .int b
  | .str b, _, h => by cases h; exact .str b
  | .dict b, _, h => by cases h
  | .list ds, _, h => by
    cases h with
    | lst a b => exact .lst (hs.seq a) (DpAll.up hs ds _ b)
  | .tuple ds, _, h => by
    cases h with
    | tup a b =>
      refine .tup ?_ (DpAll.up hs ds _ b)
      rcases a with (a | ⟨o, a⟩) | a
      · exact .inl (.inl (hs _ _ a))
      · exact .inl (.inr ⟨o, hs _ _ a⟩)
      · exact .inr a
theorem DpAll.up {K : PySem.W.Frag} {H H' : Hp} (hs : Same H H') : ∀ (ds : List PyData) (vs : List V), DpAll K H vs ds → DpAll K H' vs ds
  | [], _, h => by cases h; exact .nil
  | d :: ds, _, h => by
    cases h with
    | cons a b => exact .cons (Dp.up hs d _ a) (DpAll.up hs ds _ b)
end
theorem eqv_ints : ∀ xs ys : List Int, PyData.eqvAll (xs.map .int) (ys.map .int) = decide (xs = ys)
  | [], [] => rfl
  | [], _ :: _ => by simp [PyData.eqvAll]
  | _ :: _, [] => by simp [PyData.eqvAll]
  | x :: xs, y :: ys => by
    rw [List.map_cons, List.map_cons, PyData.eqvAll, eqv_ints xs ys, PyData.eqv]
    by_cases h : x = y
    · subst h; simp
    · simp [h]
theorem eqv_listI (xs ys : List Int) : PyData.eqv (.list (xs.map .int)) (.list (ys.map .int)) = decide (xs = ys) := by rw [PyData.eqv, eqv_ints]
theorem fit_ints {ns : List Int} {k : Nat} (h0 : 0 < k) (h9 : k ≤ 1919) (h : ∀ n ∈ ns, n.natAbs < 2 ^ k) : Fit (.list (ns.map .int)) 1 (ns.length * (k + 3) + 3) := by
  have := Fit.list (ds := ns.map PyData.int) (k := 0) (n := k + 1) (fun d hd => by
    obtain ⟨n, hn, rfl⟩ := List.mem_map.mp hd
    exact Fit.int h0 h9 (h n hn))
  rwa [List.length_map] at this
theorem rNeD_ {K : PySem.W.Frag} {H : Hp} {Q : VK} {x y : V} {d e : PyData} {k n k' n' : Nat} (fd : Fit d k n) (fe : Fit e k' n') (hk : k ≤ 64) (hk' : k' ≤ 64) (hd : Dp K H x d) (he : Dp K H y e) (q : Q (.bl (!PyData.eqv d e)) H) : rNeD K x y H Q :=
  ⟨d, e, hd, he, fd.shaped hk, fe.shaped hk', q⟩
theorem rEqD_ {K : PySem.W.Frag} {H : Hp} {Q : VK} {x y : V} {d e : PyData} {k n k' n' : Nat} (fd : Fit d k n) (fe : Fit e k' n') (hk : k ≤ 64) (hk' : k' ≤ 64) (hd : Dp K H x d) (he : Dp K H y e) (q : Q (.bl (PyData.eqv d e)) H) : rEqD K x y H Q :=
  ⟨d, e, hd, he, fd.shaped hk, fe.shaped hk', q⟩
section
variable {K : PySem.W.Frag} {H : Hp} {σ : L2.St} {Q : VK} {g : TG} {tt : TT} {te : TE} {vs : List Nat} {TA1 : TA} {ta : TE}
theorem wipe0 : wipe σ [] = σ := rfl
theorem wipe1 {v : Nat} {vs : List Nat} : wipe σ (v :: vs) = (wipe σ vs).set v none := rfl
theorem tLc_range1 : tLc (iRng1 TA1) g tt te vs σ H Q = TA1 σ H fun ws H1 => ∃ j : Int, ws = [.int j] ∧ -(2 ^ 62) ≤ j ∧ j < 2 ^ 62 ∧ tLc (fun _ H R => R (Itr 0 j.toNat) H) g tt te vs σ H1 Q := rfl
theorem tLc_range2 : tLc (iRng2 TA1) g tt te vs σ H Q = TA1 σ H fun ws H1 => ∃ i j : Int, ws = [.int i, .int j] ∧ (-(2 ^ 62) ≤ i ∧ i < 2 ^ 62 ∧ -(2 ^ 62) ≤ j ∧ j < 2 ^ 62) ∧ tLc (fun _ H R => R (Itr i (j - i).toNat) H) g tt te vs σ H1 Q := rfl
theorem tLc_list : tLc (iList K ta) g tt te vs σ H Q = ta σ H fun x H1 => ∃ a, x = .ref a ∧ (∃ xs, SqL K H1 a xs) ∧ tLc (fun _ H R => R (Itl K a) H) g tt te vs σ H1 Q := rfl
theorem tLc_tup : tLc (iTup K ta) g tt te vs σ H Q = ta σ H fun x H1 => ∃ a, x = .ref a ∧ (∃ xs, SqT K H1 a xs) ∧ tLc (fun _ H R => R (Itt K a) H) g tt te vs σ H1 Q := rfl
theorem tYes_ {QB : Bool → Hp → Prop} : tYes σ H QB = QB true H := rfl
/-- what a turn of a comprehension asks -/
def Lturn (g : TG) (tt : TT) (te : TE) (vs : List Nat) (σ : L2.St) (D : Addr) (x : V) (H : Hp) (Nx : Hp → Prop) : Prop := g x (wipe σ vs) H fun σ2 H2 => wipe σ2 vs = wipe σ vs ∧ tt σ2 H2 fun b H3 =>
  if b = true then te σ2 H3 fun y H4 => ∃ acc, H4 D = some (.lst acc) ∧ acc.length < sizeLine ∧ Nx (upd H4 D (.lst (acc ++ [y]))) else Nx H3
theorem lc_r {lo : Int} {n : Nat} (Pv : Addr → Nat → Hp → Prop) (h : ∀ D, H D = none → Pv D 0 (upd H D (.lst [])) ∧ (∀ i H', i < n → Pv D i H' → Lturn g tt te vs σ D (.int (lo + i)) H' (Pv D (i + 1))) ∧ (∀ H', Pv D n H' → Q (.ref D) H')) :
    tLc (fun _ H R => R (Itr lo n) H) g tt te vs σ H Q := fun D hD => lc_range (Pv D) (h D hD).1 (h D hD).2.1 (h D hD).2.2
theorem lc_l {a : Addr} {xs : List V} (Pv : Addr → Nat → Hp → Prop) (h : ∀ D, H D = none → Pv D 0 (upd H D (.lst [])) ∧ (∀ i H', i ≤ xs.length → Pv D i H' → SqL K H' a xs) ∧ (∀ i x H', xs[i]? = some x → Pv D i H' → Lturn g tt te vs σ D x H' (Pv D (i + 1))) ∧ (∀ H', Pv D xs.length H' → Q (.ref D) H')) :
    tLc (fun _ H R => R (Itl K a) H) g tt te vs σ H Q := fun D hD => lc_list (xs := xs) (Pv D) (h D hD).1 (h D hD).2.1 (h D hD).2.2.1 (h D hD).2.2.2
theorem lc_t {a : Addr} {xs : List V} (Pv : Addr → Nat → Hp → Prop) (h : ∀ D, H D = none → Pv D 0 (upd H D (.lst [])) ∧ (∀ i H', i ≤ xs.length → Pv D i H' → SqT K H' a xs) ∧ (∀ i x H', xs[i]? = some x → Pv D i H' → Lturn g tt te vs σ D x H' (Pv D (i + 1))) ∧ (∀ H', Pv D xs.length H' → Q (.ref D) H')) :
    tLc (fun _ H R => R (Itt K a) H) g tt te vs σ H Q := fun D hD => lc_tup (xs := xs) (Pv D) (h D hD).1 (h D hD).2.1 (h D hD).2.2.1 (h D hD).2.2.2
end
end Dt

set_option Elab.async false
set_option linter.all false
set_option maxRecDepth 100000
set_option maxHeartbeats 2000000
/-! isinstance of a caught error that has fields -/
namespace Exx
open PySem PySem.Spec PyProof.Rows L2 Rd
def rIsX (K : PySem.W.Frag) (C a : Addr) (cls : Value) (d : Option Addr) : List V → Hp → VK → Prop := fun xs H Q => ∃ (c : V) (cv : Value) (b : Bool) (dd : Addr) (fs : List (Str × V)), xs = [.ref a, c] ∧ cls = .ref C ∧ (∀ u, RelV c u → u = cv) ∧ d = some dd ∧ H dd = some (.xd fs) ∧ PySem.W.kitOne K (.ref C) cv = some b ∧ Q (.bl b) H
theorem call_isX {X : Cx} {a C : Addr} {oe : Obj} {cls : Value} {d : Option Addr} {pn : List (Addr × Obj)} (E : ExcC X.K C) (hz : Zc cls d oe) (hf : ∃ vs, oe.data = .fields vs) : CallR (X.suite a ((a, oe) :: pn)) (.builtin "isinstance") (rIsX X.K C a cls d) := by
  intro pins s σ H xs us Q I r h
  obtain ⟨c, cv, b, dd, fs, rfl, ec, hcv, ed, hd, e, q⟩ := h
  subst ec ed
  cases r with
  | cons rx rr =>
    cases rr with
    | cons rt rr =>
      cases rr
      cases rx
      have ec := hcv _ rt
      subst ec
      obtain ⟨hget, _⟩ := I.pin (a, oe) (List.mem_append_left _ List.mem_cons_self)
      obtain ⟨vs, hv⟩ := hf
      have hx : ObjOk X.prog X.w H s.heap dd (.xd fs) := I.hok dd _ hd
      obtain ⟨mA, hns, hr⟩ := hx
      obtain ⟨od, ho, hl⟩ := lookIn_ns hns
      have J : PySem.W.InstAt s.heap a oe C (some od) := ⟨hget, hz.1, by unfold PySem.W.notCls; rw [hv] <;> rfl, by rw [hz.2]; exact ho⟩
      have hcl : (PySem.W.clsIn X.K C).isSome = true := by
        obtain ⟨cd, hc, _⟩ := PySem.W.any_some E.hd
        rw [hc]; rfl
      exact PySem.W.kia_one (PySem.W.kitx_exc (od := some od) hcl E.hg E.hk E.hs E.ha E.hn E.ht E.hm) I.kIn J e (fun z => nomatch z) fun tk => ⟨.bl b, H, I.kept (t' := tk) fun _ _ z => z, rfl, q⟩
def exB (K : PySem.W.Frag) (C : Addr) : Bool := decide (PySem.W.findIn K (.ref C) "__getattribute__" = some (some (.builtin "BaseException.__getattribute__"))) && (decide (PySem.W.findIn K (.ref C) "__getattr__" = some none) && (decide (PySem.W.subIn K (.ref C) (.type "BaseException") = some true) &&
  (PySem.W.hasDictIn K C && (decide (PySem.W.findIn K (.ref C) "__class__" = some (some (.builtin "object.__class__"))) && (decide (PySem.W.specialIn K (.builtin "object.__class__") "__get__" = some (some (.builtin "getset_descriptor.__get__"))) && (decide (PySem.W.takesIn K (.builtin "object.__class__") = some true) && decide (PySem.W.mroIn K C (.type "object") = some true)))))))
theorem exB_ok {K : PySem.W.Frag} {C : Addr} (h : exB K C = true) : ExcC K C := by
  unfold exB at h
  simp only [Bool.and_eq_true, decide_eq_true_eq] at h
  obtain ⟨h1, h2, h3, h4, h5, h6, h7, h8⟩ := h
  exact ⟨h1, h2, h3, h4, h5, h6, h7, h8⟩
/-- what a table of the written part says of an own error -/
def oexB (K : PySem.W.Frag) (C : Addr) : Bool := (match K.lookup C with
  | some ⟨.type "type", _, .cls cd, sl⟩ => (match cd.mro, sl.toList with
    | .ref C' :: bm, [_, _, _, _, some (.builtin n), _] => decide (C' = C) && (decide (n = "ValueError.__new__") && (cd.hasDict && (!cd.hasDel && PySem.HandSPX.refsVE bm)))
    | _, _ => false)
  | _ => false) && (decide (PySem.W.findIn K (.ref C) "__setattr__" = some (some (.builtin "object.__setattr__"))) && (decide (PySem.W.subIn K (.ref C) (.type "BaseException") = some true) && (decide (PySem.W.typeIn K (.ref C) = some (.type "type")) && PySem.W.keepIn K (.ref C))))
theorem oexB_ok {K : PySem.W.Frag} {C : Addr} (h : oexB K C = true) : OexC K C := by
  unfold oexB at h
  obtain ⟨h1, h⟩ := Bool.and_eq_true_iff.mp h
  obtain ⟨h2, h⟩ := Bool.and_eq_true_iff.mp h
  obtain ⟨h3, h⟩ := Bool.and_eq_true_iff.mp h
  obtain ⟨h4, h5⟩ := Bool.and_eq_true_iff.mp h
  refine ⟨?_, of_decide_eq_true h2, of_decide_eq_true h3, of_decide_eq_true h4, h5⟩
  split at h1
  · rename_i dd cd sl ho
    split at h1
    · rename_i C' bm k0 k1 k2 k3 n k5 hm hs
      obtain ⟨nm, bs, mro, ns, qn, hd, sn, sb, ab, col, del⟩ := cd
      obtain ⟨sl⟩ := sl
      dsimp only at h1 hm hs
      subst hm hs
      obtain ⟨e1, h1⟩ := Bool.and_eq_true_iff.mp h1
      obtain ⟨e2, h1⟩ := Bool.and_eq_true_iff.mp h1
      obtain ⟨e3, h1⟩ := Bool.and_eq_true_iff.mp h1
      obtain ⟨e4, e5⟩ := Bool.and_eq_true_iff.mp h1
      have e1' := of_decide_eq_true e1
      have e2' := of_decide_eq_true e2
      subst e1' e2'
      cases hd with
      | false => cases e3
      | true =>
        cases del with
        | true => cases e4
        | false => exact ⟨nm, qn, ns, bs, bm, sn, sb, ab, col, dd, k0, k1, k2, k3, k5, ho, e5⟩
    · cases h1
  · cases h1
/-- all that is asked of an own error's class, by its name and its field's -/
def erB (K : PySem.W.Frag) (x n : Str) : Bool := oexB K (He.ga K x) && (decide (PySem.W.findIn K (.ref (He.ga K x)) n = some none) && (decide (PySem.W.findIn K (.ref (He.ga K x)) "__init__" = some (some (.ref (He.ma K (He.ga K x) "__init__")))) &&
  (decide (PySem.W.typeIn K (.ref (He.ma K (He.ga K x) "__init__")) = some (.type "function")) && (xfB K (He.ga K x) && (exB K (He.ga K x) && decide (PySem.W.exmOne K (.ref (He.ga K x)) (.ref (He.ga K x)) = some true))))))
structure ErT (K : PySem.W.Frag) (x n : Str) : Prop where
  oex : OexC K (He.ga K x)
  noN : PySem.W.findIn K (.ref (He.ga K x)) n = some none
  iC : PySem.W.findIn K (.ref (He.ga K x)) "__init__" = some (some (.ref (He.ma K (He.ga K x) "__init__")))
  tI : PySem.W.typeIn K (.ref (He.ma K (He.ga K x) "__init__")) = some (.type "function")
  xf : XfC K (He.ga K x)
  ex : ExcC K (He.ga K x)
  te : PySem.W.exmOne K (.ref (He.ga K x)) (.ref (He.ga K x)) = some true
theorem erB_ok {K : PySem.W.Frag} {x n : Str} (h : erB K x n = true) : ErT K x n := by
  unfold erB at h
  simp only [Bool.and_eq_true, decide_eq_true_eq] at h
  obtain ⟨h1, h2, h3, h4, h5, h6, h7⟩ := h
  exact ⟨oexB_ok h1, h2, h3, h4, xfB_ok h5, exB_ok h6, h7⟩
end Exx

set_option Elab.async false
set_option linter.all false
set_option maxRecDepth 100000
set_option maxHeartbeats 2000000
/-! data in which an empty dict may lie -/
namespace Dq
open PySem PySem.Spec PyProof.Rows L2 Rd Dt
/-- what the head says of the modules' table -/
def SysD (K : PySem.W.Frag) : Prop := ∃ o : Obj, K.lookup sysModules = some o ∧ o.cls = .type "dict"
def smS (s : Str) : Bool := decide (s.length ≤ 10000) && PyData.strOk s
mutual
inductive Dq (K : PySem.W.Frag) (H : Hp) : V → PyData → Prop
  | non : Dq K H .non .none
  | bl (b : Bool) : Dq K H (.bl b) (.bool b)
  | int (i : Int) (h : i.natAbs < 1024) : Dq K H (.int i) (.int i)
  | str (x : Str) (h : smS x = true) : Dq K H (.str x) (.str x)
  | lst {a : Addr} {xs : List V} {ds : List PyData} : H a = some (.lst xs) → xs.length ≤ 1 → DqAll K H xs ds → Dq K H (.ref a) (.list ds)
  | tup {a : Addr} {xs : List V} {ds : List PyData} : H a = some (.tup xs) → DqAll K H xs ds → Dq K H (.ref a) (.tuple ds)
  | dic {a : Addr} : H a = some (.dK []) → Dq K H (.ref a) (.dict [])
inductive DqAll (K : PySem.W.Frag) (H : Hp) : List V → List PyData → Prop
  | nil : DqAll K H [] []
  | cons {v : V} {vs : List V} {d : PyData} {ds : List PyData} : Dq K H v d → DqAll K H vs ds → DqAll K H (v :: vs) (d :: ds)
end
variable {K : PySem.W.Frag} {H H' : Hp}
mutual
theorem Dq.ups {K : PySem.W.Frag} {H H' : Hp} (hs : ∀ a o, H a = some o → (∀ xs : List V, (o = .lst xs ∧ xs.length ≤ 1) ∨ o = .tup xs ∨ o = .dK [] → H' a = some o)) : ∀ (d : PyData) (v : V), Dq K H v d → Dq K H' v d
  | .none, _, h => by cases h; exact .non
  | .bool b, _, h => by cases h; exact .bl b
  | .int b, _, h => by cases h with | int _ h => exact .int b h
  | .str b, _, h => by cases h with | str _ h => exact .str b h
  | .dict b, _, h => by
    cases h with
    | dic a => exact .dic (hs _ _ a [] (.inr (.inr rfl)))
  | .list ds, _, h => by
    cases h with
    | lst a l b => exact .lst (hs _ _ a _ (.inl ⟨rfl, l⟩)) l (DqAll.ups hs ds _ b)
  | .tuple ds, _, h => by
    cases h with
    | tup a b => exact .tup (hs _ _ a _ (.inr (.inl rfl))) (DqAll.ups hs ds _ b)
theorem DqAll.ups {K : PySem.W.Frag} {H H' : Hp} (hs : ∀ a o, H a = some o → (∀ xs : List V, (o = .lst xs ∧ xs.length ≤ 1) ∨ o = .tup xs ∨ o = .dK [] → H' a = some o)) : ∀ (ds : List PyData) (vs : List V), DqAll K H vs ds → DqAll K H' vs ds
  | [], _, h => by cases h; exact .nil
  | d :: ds, _, h => by
    cases h with
    | cons a b => exact .cons (Dq.ups hs d _ a) (DqAll.ups hs ds _ b)
end
theorem Dq.up (hs : Same H H') {d : PyData} {v : V} (h : Dq K H v d) : Dq K H' v d := Dq.ups (fun a o e _ _ => hs a o e) d v h
theorem DqAll.up (hs : Same H H') {d : List PyData} {v : List V} (h : DqAll K H v d) : DqAll K H' v d := DqAll.ups (fun a o e _ _ => hs a o e) d v h
/-- data outlives what is done to other things -/
theorem Dq.keep {d : PyData} {v : V} (hs : ∀ a o, H a = some o → (∀ xs : List V, (o = .lst xs ∧ xs.length ≤ 1) ∨ o = .tup xs ∨ o = .dK [] → H' a = some o)) (h : Dq K H v d) : Dq K H' v d := Dq.ups hs d v h
theorem DqAll.keep {d : List PyData} {v : List V} (hs : ∀ a o, H a = some o → (∀ xs : List V, (o = .lst xs ∧ xs.length ≤ 1) ∨ o = .tup xs ∨ o = .dK [] → H' a = some o)) (h : DqAll K H v d) : DqAll K H' v d := DqAll.ups hs d v h
theorem DqAll.len : ∀ {vs : List V} {ds : List PyData}, DqAll K H vs ds → vs.length = ds.length
  | _, _, .nil => rfl
  | _, _, .cons _ h => congrArg (· + 1) h.len
theorem DqAll.at {vs : List V} {ds : List PyData} (h : DqAll K H vs ds) : ∀ {i : Nat} {d : PyData}, ds[i]? = some d → ∃ v, vs[i]? = some v ∧ Dq K H v d := by
  induction ds generalizing vs with
  | nil => intro i d e; cases i <;> cases e
  | cons x xs ih =>
    intro i d e
    cases h with
    | cons a b =>
      cases i with
      | zero => cases e; exact ⟨_, rfl, a⟩
      | succ i => exact ih b e
theorem DqAll.atV {vs : List V} {ds : List PyData} (h : DqAll K H vs ds) : ∀ {i : Nat} {v : V}, vs[i]? = some v → ∃ d, ds[i]? = some d ∧ Dq K H v d := by
  induction ds generalizing vs with
  | nil => intro i d e; cases h; cases i <;> cases e
  | cons x xs ih =>
    intro i d e
    cases h with
    | cons a b =>
      cases i with
      | zero => cases e; exact ⟨_, rfl, a⟩
      | succ i => exact ih b e
theorem DqAll.append {vs ws : List V} {ds es : List PyData} (h : DqAll K H vs ds) (g : DqAll K H ws es) : DqAll K H (vs ++ ws) (ds ++ es) := by
  induction ds generalizing vs with
  | nil => cases h; exact g
  | cons x xs ih =>
    cases h with
    | cons a b => exact .cons a (ih b)
theorem DqAll.take {vs : List V} {ds : List PyData} (h : DqAll K H vs ds) : ∀ n, DqAll K H (vs.take n) (ds.take n) := by
  induction ds generalizing vs with
  | nil => intro n; cases h; simp; exact .nil
  | cons x xs ih =>
    intro n
    cases h with
    | cons a b =>
      cases n with
      | zero => exact .nil
      | succ n => exact .cons a (ih b n)
theorem DqAll.drop {vs : List V} {ds : List PyData} (h : DqAll K H vs ds) : ∀ n, DqAll K H (vs.drop n) (ds.drop n) := by
  induction ds generalizing vs with
  | nil => intro n; cases h; simp; exact .nil
  | cons x xs ih =>
    intro n
    cases h with
    | cons a b =>
      cases n with
      | zero => exact .cons a b
      | succ n => exact ih b n
mutual
theorem Dq.dp {K : PySem.W.Frag} {H : Hp} : ∀ (d : PyData) (v : V), d.hasDict = false → Dq K H v d → Dp K H v d
  | .none, _, _, h => by cases h; exact .non
  | .bool b, _, _, h => by cases h; exact .bl b
  | .int b, _, _, h => by cases h; exact .int b
  | .str b, _, _, h => by cases h; exact .str b
  | .dict b, _, n, h => by rw [PyData.hasDict] at n; cases n
  | .list ds, _, n, h => by
    rw [PyData.hasDict] at n
    cases h with
    | lst a _ b => exact .lst (SqL.of a) (DqAll.dp ds _ n b)
  | .tuple ds, _, n, h => by
    rw [PyData.hasDict] at n
    cases h with
    | tup a b => exact .tup (SqT.of a) (DqAll.dp ds _ n b)
theorem DqAll.dp {K : PySem.W.Frag} {H : Hp} : ∀ (ds : List PyData) (vs : List V), PyData.hasDictAll ds = false → DqAll K H vs ds → DpAll K H vs ds
  | [], _, _, h => by cases h; exact .nil
  | d :: ds, _, n, h => by
    rw [PyData.hasDictAll, Bool.or_eq_false_iff] at n
    cases h with
    | cons a b => exact .cons (Dq.dp d _ n.1 a) (DqAll.dp ds _ n.2 b)
end
section
variable {X : Cx} {pins : List (Addr × Obj)} {σ : L2.St} {s : Shared}
mutual
theorem Dq.reads (S : SysD X.K) (I : Inv X pins σ H s) : ∀ (d : PyData) (v : V) (u : Value), Dq X.K H v d → RelV v u → ∃ as, Reads s.heap u d as ∧ sysModules ∉ as
  | .none, _, _, h, r => by
    cases h; cases r
    exact ⟨_, Reads.none, List.not_mem_nil⟩
  | .bool b, _, _, h, r => by
    cases h; cases r
    exact ⟨_, Reads.bool b, List.not_mem_nil⟩
  | .int b, _, _, h, r => by
    cases h
    obtain ⟨t, rfl⟩ := r
    exact ⟨_, Reads.int b t, List.not_mem_nil⟩
  | .str b, _, _, h, r => by
    cases h
    obtain ⟨t, rfl⟩ := r
    exact ⟨_, Reads.str b t, List.not_mem_nil⟩
  | .list ds, _, _, h, r => by
    cases h with
    | lst hs _ ha =>
      cases r
      obtain ⟨its, rv, ⟨o, n, ho, hc, _, hd⟩, _⟩ := I.list (SqL.of hs)
      obtain ⟨as, hr, hn⟩ := DqAll.reads S I ds _ its ha rv
      refine ⟨_, Reads.list ho hc hd hr, fun z => ?_⟩
      rcases List.mem_cons.mp z with z | z
      · obtain ⟨o', k1, k2⟩ := S
        have e := I.kIn _ _ k1
        rw [z, ho] at e
        cases e
        exact absurd (Value.type.inj (hc.symm.trans k2)) (by decide)
      · exact hn z
  | .tuple ds, _, _, h, r => by
    cases h with
    | tup hs ha =>
      cases r
      obtain ⟨its, rv, ⟨o, ho, hc, n, hd⟩, _⟩ := I.tuple (SqT.of hs)
      obtain ⟨as, hr, hn⟩ := DqAll.reads S I ds _ its ha rv
      exact ⟨_, Reads.tuple ho hc hd hr, hn⟩
  | .dict ds, _, _, h, r => by
    cases h with
    | dic ha =>
      cases r
      obtain ⟨_, hne, vs, hkv, o, es, ep, h1, h2, h3, h4, h5, h6⟩ := dk_of I.hok ha
      cases hkv
      have e0 : es.toList = [] := by
        cases q : es.toList with
        | nil => rfl
        | cons x xs => rw [q] at h5; cases h5
      refine ⟨_, Reads.dict (es := es) (kvs := []) (as := []) (bs := []) h1 h2.1 h3 (by rw [e0]; exact ReadsAll.nil) (by rw [e0]; exact ReadsAll.nil), fun z => ?_⟩
      have z' : sysModules = _ := List.mem_singleton.mp (by simpa using z)
      rw [z'] at hne
      simp at hne
theorem DqAll.reads (S : SysD X.K) (I : Inv X pins σ H s) : ∀ (ds : List PyData) (vs : List V) (us : List Value), DqAll X.K H vs ds → Vals vs us → ∃ as, ReadsAll s.heap us ds as ∧ sysModules ∉ as
  | [], _, _, h, r => by
    cases h; cases r
    exact ⟨_, ReadsAll.nil, List.not_mem_nil⟩
  | d :: ds, _, _, h, r => by
    cases h with
    | cons h1 h2 =>
      cases r with
      | cons r1 r2 =>
        obtain ⟨as, q1, n1⟩ := Dq.reads S I d _ _ h1 r1
        obtain ⟨bs, q2, n2⟩ := DqAll.reads S I ds _ _ h2 r2
        refine ⟨_, ReadsAll.cons q1 q2, fun z => ?_⟩
        rcases List.mem_append.mp z with z | z
        · exact n1 z
        · exact n2 z
end
end
/-! ### sizes -/
mutual
def wt : PyData → Nat
  | .none | .bool _ | .int _ => 12
  | .str s => 10 * s.length + 12
  | .list ds | .tuple ds => 3 + wtAll ds
  | .dict _ => 12
def wtAll : List PyData → Nat
  | [] => 0
  | d :: ds => 2 + wt d + wtAll ds
end
theorem wtAll_append : ∀ ds es : List PyData, wtAll (ds ++ es) = wtAll ds + wtAll es
  | [], es => by rw [List.nil_append, wtAll, Nat.zero_add]
  | d :: ds, es => by rw [List.cons_append, wtAll, wtAll, wtAll_append ds es]; omega
theorem depthAll_append : ∀ ds es : List PyData, PyData.depthAll (ds ++ es) = max (PyData.depthAll ds) (PyData.depthAll es)
  | [], es => by rw [List.nil_append, PyData.depthAll, Nat.zero_max]
  | d :: ds, es => by rw [List.cons_append, PyData.depthAll, PyData.depthAll, depthAll_append ds es, Nat.max_assoc]
mutual
theorem Dq.size {K : PySem.W.Frag} {H : Hp} : ∀ (d : PyData) (v : V), Dq K H v d → d.showable = true ∧ d.shown.length ≤ wt d
  | .none, _, _ => ⟨rfl, Nat.le_trans Fit.non.sz (by rw [wt]; decide)⟩
  | .bool b, _, _ => ⟨rfl, Nat.le_trans (Fit.bl b).sz (by rw [wt]; decide)⟩
  | .int i, _, h => by
    cases h with
    | int _ h =>
      have := Fit.int (i := i) (k := 10) (by decide) (by decide) h
      exact ⟨this.s, Nat.le_trans this.sz (by rw [wt]; decide)⟩
  | .str s, _, h => by
    cases h with
    | str _ h =>
      obtain ⟨h1, h2⟩ := Bool.and_eq_true_iff.mp h
      have h3 : ∀ c ∈ s.cps.toList, c < 0x110000 := fun c hc => by
        have := List.all_eq_true.mp (show s.cps.toList.all (· < 0x110000) = true by rw [Array.all_toList]; exact h2) c hc
        exact of_decide_eq_true this
      have := Fit.str (x := s) (n := s.length) (Nat.le_refl _) h3
      refine ⟨rfl, Nat.le_trans this.sz ?_⟩
      rw [wt]; omega
  | .dict b, _, h => by
    cases h with
    | dic a => exact ⟨rfl, by rw [wt]; unfold PyData.shown; decide +kernel⟩
  | .list ds, _, h => by
    cases h with
    | lst a _ b =>
      obtain ⟨h1, h2, h3⟩ := DqAll.size ds _ b
      refine ⟨by rw [PyData.showable, h1], ?_⟩
      rw [PyData.shown, wt]
      have := listText_len_le (PyData.shownAll ds)
      omega
  | .tuple ds, _, h => by
    cases h with
    | tup a b =>
      obtain ⟨h1, h2, h3⟩ := DqAll.size ds _ b
      refine ⟨by rw [PyData.showable, h1], ?_⟩
      rw [PyData.shown, wt]
      have := tupleText_len_le (PyData.shownAll ds)
      omega
theorem DqAll.size {K : PySem.W.Frag} {H : Hp} : ∀ (ds : List PyData) (vs : List V), DqAll K H vs ds → PyData.showableAll ds = true ∧ ((PyData.shownAll ds).map (·.length)).sum + 2 * (PyData.shownAll ds).length ≤ wtAll ds ∧ True
  | [], _, _ => ⟨rfl, by rw [PyData.shownAll, wtAll]; decide, trivial⟩
  | d :: ds, _, h => by
    cases h with
    | cons a b =>
      obtain ⟨x1, x2⟩ := Dq.size d _ a
      obtain ⟨h1, h2, _⟩ := DqAll.size ds _ b
      refine ⟨by rw [PyData.showableAll, x1, h1]; rfl, ?_, trivial⟩
      rw [PyData.shownAll, wtAll, List.map_cons, List.sum_cons, List.length_cons]
      omega
end
/-! ### repr -/
def rReprQ (K : PySem.W.Frag) : List V → Hp → VK → Prop := fun xs H Q => ∃ (x : V) (d : PyData), xs = [x] ∧ Dq K H x d ∧ d.depth ≤ 50 ∧ wt d ≤ 1000000 ∧ Q (.str d.shown) H
theorem call_reprQ {X : Cx} {K : PySem.W.Frag} (hK : X.K = K) (S : SysD K) (hG : X.A.guards = some []) (hu : X.A.units + 64 < cLine) : CallR X (.builtin "repr") (rReprQ K) := by
  subst hK
  intro pins s σ H xs us Q I rv h
  obtain ⟨x, d, rfl, hd, hdp, hw, q⟩ := h
  obtain ⟨hs, hz'⟩ := hd.size
  have hz : d.shown.length ≤ sizeLine := Nat.le_trans (Nat.le_trans hz' hw) (by rw [sizeLine_eq]; decide)
  cases rv with
  | cons rx rn =>
    cases rn
    have fin : ∀ (tk : Nat) (u : Tok), EP X pins σ Q (.str d.shown u) { s with toks := tk } := fun tk u => ⟨.str d.shown, H, I.tok _, ⟨u, rfl⟩, q⟩
    obtain ⟨as, rd, hn⟩ := Dq.reads S I d x _ hd rx
    cases hd with
    | non => cases rx; exact PySem.P.repr_of_none (fin _ _)
    | bl b => cases rx; cases b <;> exact PySem.P.repr_of_bool (fin _ _)
    | int i _ =>
      obtain ⟨t, rfl⟩ := rx
      rw [PyData.showable] at hs
      exact PySem.P.repr_of_int (of_decide_eq_true hs) (fin _ _)
    | str y _ => obtain ⟨t, rfl⟩ := rx; exact PySem.P.repr_of_str (fin _ _) hz
    | lst ha _ hb =>
      cases rx
      exact repr_of_reads' rd hs (fun _ => hn) hG (by omega) (fun _ _ z => z) (fun h' u tk hk => ⟨.str _, H, I.kept (t' := tk) hk, ⟨u, rfl⟩, q⟩) hz
    | tup ha hb =>
      cases rx
      exact repr_of_reads' rd hs (fun _ => hn) hG (by omega) (fun _ _ z => z) (fun h' u tk hk => ⟨.str _, H, I.kept (t' := tk) hk, ⟨u, rfl⟩, q⟩) hz
    | dic ha =>
      cases rx
      exact repr_of_reads' rd hs (fun _ => hn) hG (by omega) (fun _ _ z => z) (fun h' u tk hk => ⟨.str _, H, I.kept (t' := tk) hk, ⟨u, rfl⟩, q⟩) hz
/-! ### a tuple beside the empty one -/
def rEqE (K : PySem.W.Frag) : R2 := fun x y H Q => ∃ (a b : Addr) (xs : List V), x = .ref a ∧ y = .ref b ∧ SqT K H a xs ∧ SqT K H b [] ∧ Q (.bl (decide (xs = []))) H
theorem op_eqE {X : Cx} (hu : X.A.units + 64 < cLine) : OpR X (compareOp .Eq) (rEqE X.K) := by
  intro pins s σ H x y v u Q I rx ry h
  obtain ⟨a, b, xs, rfl, rfl, ha, hb, q⟩ := h
  cases rx
  cases ry
  obtain ⟨its, rv, tu, _⟩ := I.tuple ha
  obtain ⟨its2, rv2, tu2, _⟩ := I.tuple hb
  cases rv2
  refine SeqAt.eq_tupleAt (e := fun _ => true) tu tu2 (by omega) (fun j _ h2 => (Nat.not_lt_zero _ h2).elim) ?_
  refine ⟨.bl (decide (xs = [])), H, I, ?_, q⟩
  show Value.bool _ = Value.bool _
  congr 1
  have hl := rv.length
  cases xs with
  | nil =>
    cases rv
    rfl
  | cons a r =>
    cases its with
    | nil => cases rv
    | cons b t => simp
def rNeE (K : PySem.W.Frag) : R2 := fun x y H Q => ∃ (a b : Addr) (xs : List V), x = .ref a ∧ y = .ref b ∧ SqT K H a xs ∧ SqT K H b [] ∧ Q (.bl (!decide (xs = []))) H
theorem op_neE {X : Cx} (hu : X.A.units + 64 < cLine) : OpR X (compareOp .NotEq) (rNeE X.K) := by
  intro pins s σ H x y v u Q I rx ry h
  obtain ⟨a, b, xs, rfl, rfl, ha, hb, q⟩ := h
  cases rx
  cases ry
  obtain ⟨its, rv, tu, _⟩ := I.tuple ha
  obtain ⟨its2, rv2, tu2, _⟩ := I.tuple hb
  cases rv2
  refine SeqAt.RcNeAt.tuples (e := fun _ => true) tu tu2 (by omega) (fun j _ h2 => (Nat.not_lt_zero _ h2).elim) X.prog X.w _ _ ?_
  refine ⟨.bl (!decide (xs = [])), H, I, ?_, q⟩
  show Value.bool _ = Value.bool _
  congr 1
  have hl := rv.length
  cases xs with
  | nil =>
    cases rv
    rfl
  | cons a r =>
    cases its with
    | nil => cases rv
    | cons b t => simp
/-! ### x in a tuple of data -/
def rInT (K : PySem.W.Frag) : R2 := fun x y H Q => ∃ d ds, Dp K H x d ∧ Dp K H y (.tuple ds) ∧ SeqAt.shaped d = true ∧ SeqAt.shaped (.tuple ds) = true ∧ Q (.bl (ds.any fun z => PyData.eqv z d)) H
def rNotInT (K : PySem.W.Frag) : R2 := fun x y H Q => ∃ d ds, Dp K H x d ∧ Dp K H y (.tuple ds) ∧ SeqAt.shaped d = true ∧ SeqAt.shaped (.tuple ds) = true ∧ Q (.bl (!ds.any fun z => PyData.eqv z d)) H
theorem op_inT {X : Cx} (hu : X.A.units + 65 < cLine) : OpR X (compareOp .In) (rInT X.K) := by
  intro pins s σ H x y v u Q I rx ry h
  obtain ⟨d, ds, hd, he, sd, se, q⟩ := h
  obtain ⟨as, r1⟩ := Dp.reads I d x v hd rx
  obtain ⟨bs, r2⟩ := Dp.reads I (.tuple ds) y u he ry
  exact SeqAt.in_tuple_reads r2 r1 (SeqAt.canLay_of_shaped se) (SeqAt.canLay_of_shaped sd) (room_in_shaped sd hu) ⟨.bl _, H, I, rfl, q⟩
theorem op_notInT {X : Cx} (hu : X.A.units + 65 < cLine) : OpR X (compareOp .NotIn) (rNotInT X.K) := by
  intro pins s σ H x y v u Q I rx ry h
  obtain ⟨d, ds, hd, he, sd, se, q⟩ := h
  obtain ⟨as, r1⟩ := Dp.reads I d x v hd rx
  obtain ⟨bs, r2⟩ := Dp.reads I (.tuple ds) y u he ry
  exact SeqAt.notIn_tuple_reads r2 r1 (SeqAt.canLay_of_shaped se) (SeqAt.canLay_of_shaped sd) (room_in_shaped sd hu) ⟨.bl _, H, I, rfl, q⟩
end Dq

set_option Elab.async false
set_option linter.all false
set_option maxRecDepth 100000
set_option maxHeartbeats 2000000
/-! one of a row: of a list, a tuple, a text -/
namespace Pk
open PySem PySem.Spec PyProof.Rows L2 Rd
def rIxO (r r' : R2) : R2 := fun x y H Q => r x y H Q ∨ r' x y H Q
theorem IxR_or {X : Cx} {r r' : R2} (h : IxR X r) (h' : IxR X r') : IxR X (rIxO r r') := by
  intro value slice pins s σ H x y v u Q I rx ry q hs
  rcases q with q | q
  · exact h value slice pins s σ H x y v u Q I rx ry q hs
  · exact h' value slice pins s σ H x y v u Q I rx ry q hs
/-- the signs of a text, the items of a row -/
inductive Row (H : Hp) : V → List V → Prop
  | lst {a : Addr} {xs : List V} : H a = some (.lst xs) → Row H (.ref a) xs
  | tup {a : Addr} {xs : List V} : H a = some (.tup xs) → Row H (.ref a) xs
  | str (z : Str) (h : z.length ≤ sizeLine) : Row H (.str z) (z.cps.toList.map fun c => V.str ⟨#[c]⟩)
theorem Row.but {H H' : Hp} {u : Addr} {x : V} {xs : List V} (h : Row H x xs) (hb : But u H H') (hu : x ≠ .ref u) : Row H' x xs := by
  cases h with
  | lst e => exact .lst (hb _ _ (fun z => hu (by rw [z])) e)
  | tup e => exact .tup (hb _ _ (fun z => hu (by rw [z])) e)
  | str z h => exact .str z h
def rIxR : R2 := fun x y H Q => ∃ xs i v, Row H x xs ∧ y = .int i ∧ 0 ≤ i ∧ i < 2 ^ 60 ∧ xs[i.toNat]? = some v ∧ Q v H
theorem ix_row {X : Cx} : IxR X rIxR := by
  intro value slice pins s σ H x y v u Q I rx ry h hs
  obtain ⟨xs, i, z, hR, rfl, h0, h6, hz, q⟩ := h
  cases hR with
  | lst e => exact ix_list value slice pins s σ H _ _ v u Q I rx ry ⟨_, _, _, _, rfl, rfl, SqL.of e, atI_nn h0 hz, q⟩ hs
  | tup e => exact ix_tup value slice pins s σ H _ _ v u Q I rx ry ⟨_, _, _, _, rfl, rfl, SqT.of e, atI_nn h0 hz, q⟩ hs
  | str t ht =>
    rw [List.getElem?_map] at hz
    obtain ⟨c, hc, rfl⟩ := Option.map_eq_some_iff.mp hz
    have hl : i.toNat < t.cps.toList.length := (List.getElem?_eq_some_iff.mp hc).1
    exact ix_str value slice pins s σ H _ _ v u Q I rx ry ⟨_, _, _, rfl, rfl, ht, atI_nn h0 hc, q⟩ hs
def rLenR : List V → Hp → VK → Prop := fun vs H Q => ∃ x xs, vs = [x] ∧ Row H x xs ∧ Q (.int (xs.length : Nat)) H
theorem call_lenR {X : Cx} : CallR X (.builtin "len") rLenR := by
  intro pins s σ H vs us Q I r h
  obtain ⟨x, xs, rfl, hR, q⟩ := h
  cases hR with
  | lst e => exact call_len_seq pins s σ H _ us Q I r ⟨_, _, rfl, .inl (SqL.of e), q⟩
  | tup e => exact call_len_seq pins s σ H _ us Q I r ⟨_, _, rfl, .inr (SqT.of e), q⟩
  | str t ht => exact call_len_str pins s σ H _ us Q I r ⟨t, rfl, ht, by rw [List.length_map, Array.length_toList] at q; exact q⟩
theorem vals_at : ∀ (ys : List V) (us : List Value), ys.length = us.length → (∀ (j : Nat) (v : V) (u : Value), ys[j]? = some v → us[j]? = some u → RelV v u) → Vals ys us
  | [], [], _, _ => .nil
  | [], _ :: _, h, _ => nomatch h
  | _ :: _, [], h, _ => nomatch h
  | y :: ys, u :: us, h, g => .cons (g 0 _ _ rfl rfl) (vals_at ys us (Nat.succ.inj h) fun j v u a b => g (j + 1) v u a b)
def rSigns : List V → Hp → VK → Prop := fun xs H Q => ∃ z : Str, xs = [.str z] ∧ z.length ≤ sizeLine ∧ ∀ l, H l = none → Q (.ref l) (upd H l (.lst (z.cps.toList.map fun c => V.str ⟨#[c]⟩)))
/-- list(a text) -/
theorem call_list_signs {X : Cx} (hh : X.A.handled = none) : CallR X (.type "list") rSigns := by
  intro pins s σ H xs us Q I r h
  obtain ⟨z, rfl, hz, q⟩ := h
  obtain ⟨u, rfl, rx⟩ := vals1 r
  obtain ⟨t, rfl⟩ := rx
  refine PySem.call_list_str hh z t (hn := hz) fun h' tk acc' c' hk hS' hacc => ?_
  have hv : Vals (z.cps.toList.map fun c => V.str ⟨#[c]⟩) acc'.toList := by
    refine vals_at _ _ ?_ fun j v u hj hu => ?_
    · rw [List.length_map, Array.length_toList, Array.length_toList]; exact hacc.1.symm
    · obtain ⟨c, k, hc, rfl⟩ := hacc.2 j u (by simpa using hu)
      rw [List.getElem?_map, Array.getElem?_toList, hc] at hj
      cases hj
      exact ⟨k, rfl⟩
  exact ⟨.ref s.heap.objs.size, _, I.laid (t' := tk) hk (Nat.le_refl _) (show ObjOk X.prog X.w _ h' _ (.lst (z.cps.toList.map fun c => V.str ⟨#[c]⟩)) from ⟨by rw [List.length_map, Array.length_toList]; exact hz, acc'.toList, c', hv, by simpa using hS'⟩), rfl, q _ (I.hok.fresh (Nat.le_refl _))⟩
/-- a tuple as a comprehension's target -/
theorem pg_tupK {X : Cx} {K : PySem.W.Frag} {es : List Expr} {k : Nat} {pos : Pos} {t : TGs} {n : Nat} (hK : X.K = K) (hc : X.calm = true) (h : PGs X es t)
    (hn : (assignEach es X.env).length = n) (hst : (assignEach es X.env).findIdx? (·.1) = none) : PG X (.Tuple es k pos) (gTup K n t) := by
  subst hK
  exact pg_tup hc h hn hst
end Pk

set_option Elab.async false
set_option linter.all false
set_option maxRecDepth 100000
set_option maxHeartbeats 4000000
namespace K79
open PySem PySem.Spec PyProof.Rows L2 Rd Dt Dq Pk
local macro_rules | `(tactic| walk_at "rd") => `(tactic| try simp only [tVar_, tC_, tOp_, tUn_, rI_, rI0_, rU_, eq_ii, ne_ii, eq_ss, ne_ss, eq_bb, ne_bb, tAndV_, tOrV_, tNotV_, tIf_, tTest_, tB_, tAnd_, tOr_, tNot_, tChain_, tNil_, tCons_, tTup_, tLst_, tCB_, tCall_, tSeq_, tNext_, tRet_, tRetN_, tDrop_, tBreak_, tNever_, tIfS_, tAsg_, gName_, gTup_, gCons_, gNil_, gSub_, tPar_, tPar3_, tSl_, tNoPart_, tPart_, tBM_, tFor_range1, tFor_range2, tFor_list, tFor_tup,
  L2.start, List.map_cons, List.map_nil, List.length_cons, List.length_nil, List.replicate, List.append_nil, List.nil_append, List.cons_append, List.getElem?_cons_zero, List.getElem?_cons_succ, List.set_cons_zero, List.set_cons_succ, Option.some.injEq, V.int.injEq, V.bl.injEq, V.str.injEq, V.ref.injEq, exists_eq_left, exists_eq_left', exists_eq_right, exists_eq, exists_and_left, and_true, true_and, decide_eq_true_eq, Nat.reduceAdd, Nat.reduceSub, Nat.add_zero, Nat.zero_add, List.cons.injEq, Bool.not_eq_true', decide_eq_false_iff_not, eq_self, reduceCtorEq, Bool.false_eq_true, if_true, if_false, ite_true, ite_false, and_self, tLc_range1, tLc_range2, tLc_list, tLc_tup, tYes_, wipe0, wipe1, tCallS_, rIxL_, rIxT_, rSlL_, rCat_, rSetL_, rRep_, rGcd_, tCallK_, gUnl_, tRaise_, decide_true, decide_false, not_true_eq_false, not_false_eq_true, false_and, or_false, false_or, and_false, and_assoc, exists_const, forall_const, forall_eq'])

def top (i : Nat) : Stmt := PySem.Challenge.pw_arrowcells_k79_whole_arrows_and_lost_rin.main.body.getD i (.Pass ⟨0, 0, 0, 0⟩)
structure Tx (mg : Str → Option Value) : Prop where
  b_len : mg "len" = none
  b_int : mg "int" = none
  b_isinstance : mg "isinstance" = none
  b_abs : mg "abs" = none
  b_divmod : mg "divmod" = none
  b_range : mg "range" = none
  b_max : mg "max" = none
  b_min : mg "min" = none
  b_repr : mg "repr" = none
  b_all : mg "all" = none
  b_list : mg "list" = none
  b_tuple : mg "tuple" = none
  b_str : mg "str" = none
  b_bool : mg "bool" = none
  b_dict : mg "dict" = none
  b_enumerate : mg "enumerate" = none
  b_sorted : mg "sorted" = none
  b_sum : mg "sum" = none
  b_set : mg "set" = none
  lets : ∃ t, mg "LETTERS" = some (.str "abcdefghijklmnopqrstuvwxyz" t)
  en : ∃ t, mg "END" = some (.int 0 t)
  mp : ∃ t, mg "MOST_PLACE" = some (.int 999 t)
  mc : ∃ t, mg "MOST_CELLS" = some (.int 500 t)
  mn : ∃ t, mg "MOST_NAMES" = some (.int 4 t)
abbrev abc : Str := "abcdefghijklmnopqrstuvwxyz"
abbrev fig : Str := "0123456789"
abbrev FD (K : PySem.W.Frag) (x : Str) (st : Stmt) (f : Addr) (fd : FuncData) : Prop := FunD K x x (defArgs st) (defBody st) (defScope st) [] [] f fd
abbrev KW (K : PySem.W.Frag) (fd : FuncData) (ps : List Str) : Prop := KBn K fd ps 0 ps (fun _ ws => ws) (fun _ zs => zs)
section
variable {P : Program} {w : World} {K : PySem.W.Frag} {mg : Str → Option Value} {base : Heap}
def WellAt (H : Hp) (u : Addr) : Prop := ∃ a b c : Int, H u = some (.lst [.int a, .int b, .int c]) ∧ 0 ≤ b ∧ b < 2147483648
theorem WellAt.but {H H' : Hp} {u : Addr} (h : WellAt H u) (s : Same H H') : WellAt H' u := by
  obtain ⟨a, b, c, e, q⟩ := h
  exact ⟨a, b, c, s _ _ e, q⟩
def spTake : Sp := fun vs H Q _ => ∃ (u : Addr) (n : Int), vs = [.ref u, .int n] ∧ WellAt H u ∧ 1 ≤ n ∧ n < 1073741824 ∧ ∀ (d : Int) (H' : Hp), But u H H' → WellAt H' u → 0 ≤ d → d < n → Q (.int d) H'
theorem sc_take : FnScope ["_law_urn_here", "_law_size", "_law_digit", "_law_step"] ["_law_urn_here", "_law_size"] (defScope (top 35)) := ⟨rfl, rfl, rfl, by decide +kernel, rfl, by decide +kernel, by decide +kernel⟩
theorem ok_take {f : Addr} {fd : FuncData} (T : Tx mg) (F : FD K "_law_take" (top 35) f fd) : FnOk P w K mg base CX0 1 f fd ["_law_urn_here", "_law_size"] spTake := by
  refine F.ok sc_take (fun vs H Q E h => ?_) (fun cdv A outer s H vs Q E hr h => ?_)
  · obtain ⟨_, _, rfl, _⟩ := h
    rfl
  · obtain ⟨u, n, rfl, ⟨a, b, c, hu, hb0, hb1⟩, n1, n2, k⟩ := h
    have nd := sc_take.nd
    refine ⟨_, (pss_cons (ps_if (pt_cmpR op_gt (pe_ix (r := rIxL K) ix_list (pv 0) pe_int (fun _ _ => rfl)) pe_int (nomark _)) (pss_cons (ps_asg (pe_callB call_divmodW (by rfl) T.b_divmod (by decide +kernel) (pa_cons (pe_ix (r := rIxL K) ix_list (pv 0) pe_int (fun _ _ => rfl)) (pa_cons (pv 1) pa_nil))) (pg_tup rfl (pgs_cons (pg_sub (pv 0) pe_int set_list) (pgs_cons (pg_name (i := 2) nd rfl (Or.inl rfl) (hf := Or.inr rfl)) pgs_nil))))
        (pss_one (ps_ret (pv 2)))) pss_nil)
        (pss_cons (ps_asg (pe_op op_add (pe_ix (r := rIxL K) ix_list (pv 0) pe_int (fun _ _ => rfl)) pe_int) (pg_sub (pv 0) pe_int set_list))
        (pss_cons (ps_set (i := 3) nd rfl (Or.inl rfl) (pe_op op_add (pe_op op_mod (pe_callTy call_int1 (by rfl) T.b_int (by decide +kernel) (pa_cons (pe_ix (r := rIxL K) ix_list (pv 0) pe_int (fun _ _ => rfl)) pa_nil)) pe_int) pe_int))
        (pss_cons (ps_asg (pe_op op_mod (pe_callTy call_int1 (by rfl) T.b_int (by decide +kernel) (pa_cons (pe_op op_add (pe_op op_add (pe_op op_mul (pe_ix (r := rIxL K) ix_list (pv 0) pe_int (fun _ _ => rfl)) (pv 3)) (pe_op op_mul pe_int (pe_ix (r := rIxL K) ix_list (pv 0) pe_int (fun _ _ => rfl)))) pe_int) pa_nil)) pe_int) (pg_sub (pv 0) pe_int set_list))
        (pss_one (ps_ret (pe_op op_mod (pe_callTy call_int1 (by rfl) T.b_int (by decide +kernel) (pa_cons (pe_op op_fdiv (pe_ix (r := rIxL K) ix_list (pv 0) pe_int (fun _ _ => rfl)) pe_int) pa_nil)) (pv 1)))))))), ?_⟩
    refine sq fun U hU => ?_
    walk_at "rd"
    refine ⟨_, SqL.of hu, _, atI_nn (by decide) rfl, a, rfl, ?_⟩
    by_cases c0 : 0 < a
    · rw [if_pos c0]
      refine ⟨_, SqL.of hu, _, atI_nn (by decide) rfl, a, rfl, ⟨by omega, PyProof.noPylong_small (by omega)⟩, fun p hp => ?_⟩
      have hup : u ≠ p := ne_of_none hu hp
      refine ⟨_, SqT.of upd_same, rfl, _, _, rfl, _, (by rw [upd_ne hup]; exact hu), 0, rfl, _, _, rfl, rfl, ?_⟩
      refine k _ _ (fun b' o hb e => ?_) ⟨_, _, _, upd_same, hb0, hb1⟩ (Int.emod_nonneg a (by omega)) (Int.emod_lt_of_pos a (by omega))
      rw [upd_ne hb, upd_ne (ne_of_none e hp)]; exact e
    rw [if_neg c0]
    refine hU _ _ ?_
    clear hU
    refine sq fun U hU => ?_
    walk_at "rd"
    refine ⟨_, SqL.of hu, _, atI_nn (by decide) rfl, c, rfl, _, hu, 2, rfl, hU _ _ ?_⟩
    clear hU
    have h1 : (upd H u (.lst ([V.int a, V.int b, V.int c].set 2 (V.int (c + 1))))) u = some (.lst [.int a, .int b, .int (c + 1)]) := upd_same
    generalize eH : upd H u (.lst ([V.int a, V.int b, V.int c].set 2 (V.int (c + 1)))) = H1 at h1 ⊢
    have s1 : But u H H1 := by rw [← eH]; exact But.put
    refine sq fun U hU => ?_
    walk_at "rd"
    refine ⟨_, SqL.of h1, _, atI_nn (by decide) rfl, .inl ⟨b, rfl, by decide, hU _ _ ?_⟩⟩
    clear hU
    have e0 := Int.emod_nonneg b (show (20011 : Int) ≠ 0 by decide)
    have e1 := Int.emod_lt_of_pos b (show (0 : Int) < 20011 by decide)
    generalize b % 20011 = g at e0 e1 ⊢
    refine sq fun U hU => ?_
    walk_at "rd"
    refine ⟨_, SqL.of h1, _, atI_nn (by decide) rfl, b, rfl, .inr ⟨by omega, by omega⟩, _, SqL.of h1, _, atI_nn (by decide) rfl, c + 1, rfl, .inl ⟨by decide, by decide⟩, by decide, _, h1, 1, rfl, hU _ _ ?_⟩
    clear hU
    have q1 := Int.emod_nonneg (b * (g + 30011) + 70001 * (c + 1) + 7) (show (2147483587 : Int) ≠ 0 by decide)
    have q2 := Int.emod_lt_of_pos (b * (g + 30011) + 70001 * (c + 1) + 7) (show (0 : Int) < 2147483587 by decide)
    generalize (b * (g + 30011) + 70001 * (c + 1) + 7) % 2147483587 = b2 at q1 q2 ⊢
    have h2 : (upd H1 u (.lst ([V.int a, V.int b, V.int (c + 1)].set 1 (V.int b2)))) u = some (.lst [.int a, .int b2, .int (c + 1)]) := upd_same
    walk_at "rd"
    refine ⟨_, SqL.of h2, _, atI_nn (by decide) rfl, b2, rfl, ⟨by decide, by decide⟩, by omega, ?_⟩
    exact k _ _ (s1.trans But.put) ⟨_, _, _, h2, q1, by omega⟩ (Int.emod_nonneg _ (by omega)) (Int.emod_lt_of_pos _ (by omega))
def spUrn (K : PySem.W.Frag) : Sp := fun vs H Q _ => ∃ (a : Addr) (ns : List Int) (t : Int), vs = [.ref a, .int t] ∧ SqL K H a (ns.map V.int) ∧ ns.length ≤ 63 ∧ 0 ≤ t ∧ t ≤ 5 ∧ ∀ (u : Addr) (H' : Hp), Same H H' → H u = none → WellAt H' u → Q (.ref u) H'
theorem sc_urn : FnScope ["_law_script", "_law_turn", "_law_own", "_law_stir", "_law_cell"] ["_law_script", "_law_turn"] (defScope (top 34)) := ⟨rfl, rfl, rfl, by decide +kernel, rfl, by decide +kernel, by decide +kernel⟩
theorem ok_urn {f : Addr} {fd : FuncData} (T : Tx mg) (F : FD K "_law_urn" (top 34) f fd) : FnOk P w K mg base CX0 1 f fd ["_law_script", "_law_turn"] (spUrn K) := by
  refine F.ok sc_urn (fun vs H Q E h => ?_) (fun cdv A outer s H vs Q E hr h => ?_)
  · obtain ⟨_, _, _, rfl, _⟩ := h
    rfl
  · obtain ⟨a, ns, t, rfl, hS, hn, t0, t1, k⟩ := h
    have nd := sc_urn.nd
    refine ⟨_, (pss_cons (ps_set (i := 2) nd rfl (Or.inl rfl) (pe_ifExp (pt_cmpR op_lt (pv 1) (pe_callB call_len_seq (by rfl) T.b_len PySem.boot_len (pa_cons (pv 0) pa_nil)) (nomark _)) (pe_callTy call_int1 (by rfl) T.b_int (by decide +kernel) (pa_cons (pe_ix (r := rIxL K) ix_list (pv 0) (pv 1) (fun _ _ => rfl)) pa_nil)) (pe_op op_add (pe_op op_add (pe_op op_mul pe_int (pv 1)) pe_int) (pe_op op_mod (pe_callTy call_int1 (by rfl) T.b_int (by decide +kernel) (pa_cons (pe_callB (cr_sum rfl) (by rfl) T.b_sum (by decide +kernel) (pa_cons (pe_slice (r := rSlL K) sl_list (pv 0) po_none (po_some pe_int)) pa_nil)) pa_nil)) pe_int))))
        (pss_cons (ps_set (i := 3) nd rfl (Or.inl rfl) (pe_op op_add pe_int (pe_op op_mul pe_int (pv 1))))
        (pss_cons (ps_for (passes_of rfl) rfl (pi_list (pe_op op_cat (pe_slice (r := rSlL K) sl_list (pv 0) po_none (po_some pe_int)) (pe_lst (pa_cons (pv 2) pa_nil)))) (pg_name (i := 4) nd rfl (Or.inl rfl)) (pss_one (ps_set (i := 3) nd rfl (Or.inl rfl) (pe_op op_mod (pe_callTy call_int1 (by rfl) T.b_int (by decide +kernel) (pa_cons (pe_op op_add (pe_op op_add (pe_op op_mul (pv 3) pe_int) (pe_op op_mod (pe_callTy call_int1 (by rfl) T.b_int (by decide +kernel) (pa_cons (pv 4) pa_nil)) pe_int)) pe_int) pa_nil)) pe_int))))
        (pss_one (ps_ret (pe_lst (pa_cons (pe_ifExp (PW.pt (pw_or (pt_cmpR op_lt (pv 2) pe_int (nomark _)) (pw_or1 (pt_cmpR op_ge (pv 2) (pe_op op_pow pe_int pe_int) (nomark _))))) (pe_callB call_abs (by rfl) T.b_abs (by decide +kernel) (pa_cons (pv 2) pa_nil)) pe_int) (pa_cons (pv 3) (pa_cons pe_int pa_nil))))))))), ?_⟩
    refine sq fun U hU => ?_
    walk_at "rd"
    have fin : ∀ (o : Int) (H' : Hp), Same H H' → U [some (V.ref a), some (V.int t), some (V.int o), none, none] H' := fun o H' s1 => by
      refine hU _ _ ?_
      clear hU
      refine sq fun U hU => ?_
      walk_at "rd"
      refine ⟨.inl ⟨by decide, by decide⟩, hU _ _ ?_⟩
      clear hU
      refine sq fun U hU => ?_
      walk_at "rd"
      refine ⟨_, s1.seq hS, fun q hq => ?_⟩
      have one : 1 ≤ sizeLine := by rw [sizeLine_eq]; decide
      refine ⟨one, fun p hp => ?_⟩
      have npq : q ≠ p := fun z => by rw [z, upd_same] at hp; cases hp
      have cl : (cutV (ns.map V.int) none (some 8)).length ≤ 63 := by
        have := cutV_length (ns.map V.int) none (some 8)
        rw [List.length_map] at this
        omega
      have sz : 64 ≤ sizeLine := by rw [sizeLine_eq]; decide
      refine ⟨_, (by rw [upd_ne npq]; exact upd_same), _, upd_same, (by simp only [List.length_cons, List.length_nil]; omega), fun r hr2 => ⟨⟨_, SqL.of upd_same⟩, ?_⟩⟩
      have aI : ∀ x ∈ cutV (ns.map V.int) none (some 8) ++ [V.int o], ∃ z, x = V.int z := fun x hx => by
        rcases List.mem_append.mp hx with hx | hx
        · obtain ⟨z, _, rfl⟩ := List.mem_map.mp (List.mem_of_mem_drop (List.mem_of_mem_take hx))
          exact ⟨z, rfl⟩
        · exact ⟨o, List.mem_singleton.mp hx⟩
      generalize cutV (ns.map V.int) none (some 8) ++ [V.int o] = L at aI ⊢
      have s2 : Same H (upd (upd (upd H' q (HO.lst (cutV (List.map V.int ns) none (some 8)))) p (HO.lst [V.int o])) r (HO.lst L)) := by
        refine (s1.trans (same_new hq)).trans (Same.trans (same_new hp) (same_new hr2))
      generalize eH : upd (upd (upd H' q (HO.lst (cutV (List.map V.int ns) none (some 8)))) p (HO.lst [V.int o])) r (HO.lst L) = H2 at s2 ⊢
      have hr3 : H2 r = some (.lst L) := by rw [← eH]; exact upd_same
      refine for_l (K := K) (a := r) (xs := L) (fun i σ H3 => H3 r = some (.lst L) ∧ Same H H3 ∧ ∃ (b : Int) (x : Option V), σ = [some (.ref a), some (V.int t), some (V.int o), some (V.int b), x] ∧ 0 ≤ b ∧ b < 2147483648) ⟨hr3, s2, _, _, rfl, by omega, by omega⟩ (fun i σ H _ h => SqL.of h.1) ?_ ?_
      · rintro i x σ H3 hi ⟨e1, e2, b, y, rfl, b0, b1⟩
        obtain ⟨z, rfl⟩ := aI x (List.mem_of_getElem? hi)
        walk_at "rd"
        refine ⟨.inr ⟨by decide, by decide⟩, by decide, by decide, e1, e2, Int.emod_nonneg _ (by decide), Int.lt_trans (Int.emod_lt_of_pos _ (by decide)) (by decide)⟩
      · rintro σ H3 ⟨e1, e2, b, y, rfl, b0, b1⟩
        refine hU _ _ ?_
        clear hU
        walk_at "rd"
        have z3 : 3 ≤ sizeLine := by rw [sizeLine_eq]; decide
        have fin : ∀ g : Int, 3 ≤ sizeLine ∧ ∀ (p : Addr), H3 p = none → Q (V.ref p) (upd H3 p (HO.lst [V.int g, V.int b, V.int 0])) := fun g => ⟨z3, fun p hp => k p _ (e2.trans (same_new hp)) (e2.free hp) ⟨_, _, _, upd_same, b0, b1⟩⟩
        by_cases c : o < 0
        · rw [if_pos c]; exact fin _
        rw [if_neg c]
        refine ⟨⟨by decide, by decide, by decide⟩, ?_⟩
        by_cases c2 : (10 : Int) ^ Int.toNat 18 ≤ o
        · rw [if_pos c2]; exact fin _
        · rw [if_neg c2]; exact fin _
    refine ⟨_, .inl hS, ?_⟩
    rw [List.length_map]
    by_cases c : t < (ns.length : Int)
    · rw [if_pos c]
      have hx : (ns.map V.int)[t.toNat]? = some (V.int (ns[t.toNat]'(by omega))) := by rw [List.getElem?_map, List.getElem?_eq_getElem (by omega)]; rfl
      exact ⟨_, hS, _, atI_nn t0 hx, .inl ⟨_, rfl, fin _ _ (fun _ _ e => e)⟩⟩
    · rw [if_neg c]
      refine ⟨.inl ⟨by decide, by decide⟩, _, hS, fun p hp => ?_⟩
      have eq : cutV (ns.map V.int) none (some 2) = (((ns.drop (HT.sIx ns.length 0 none)).take (HT.sIx ns.length ns.length (some 2) - HT.sIx ns.length 0 none)).map V.int) := by
        unfold cutV
        rw [List.length_map, List.map_take, List.map_drop]
      rw [eq]
      exact ⟨p, _, rfl, SqL.of upd_same, .inl ⟨_, rfl, by decide, fin _ _ (same_new hp)⟩⟩
theorem some_but {H H' : Hp} {u : Addr} {a : Addr} {o : HO} (h : H a = some o) (hb : But u H H') (n : a ≠ u) : H' a = some o := hb _ _ n h
def spPick : Sp := fun vs H Q _ => ∃ (u : Addr) (x : V) (xs : List V), vs = [.ref u, x] ∧ WellAt H u ∧ x ≠ .ref u ∧ Row H x xs ∧ 1 ≤ xs.length ∧ xs.length ≤ 1000 ∧ ∀ (y : V) (H' : Hp), But u H H' → WellAt H' u → y ∈ xs → Q y H'
theorem sc_of : FnScope ["_law_urn_here", "_law_some"] ["_law_urn_here", "_law_some"] (defScope (top 36)) := ⟨rfl, rfl, rfl, by decide +kernel, rfl, by decide +kernel, by decide +kernel⟩
theorem ok_of {f : Addr} {fd : FuncData} (T : Tx mg) (F : FD K "_law_of" (top 36) f fd) {f1 : Addr} {fd1 : FuncData} (C1 : Cal P w K mg base CX0 1 "_law_take" ["_law_urn_here", "_law_size"] spTake f1 fd1) : FnOk P w K mg base CX0 2 f fd ["_law_urn_here", "_law_some"] spPick := by
  obtain ⟨g_law_take, k_law_take, b_law_take, F_law_take⟩ := C1
  refine F.ok sc_of (fun vs H Q E h => ?_) (fun cdv A outer s H vs Q E hr h => ?_)
  · obtain ⟨_, _, _, rfl, _⟩ := h
    rfl
  · obtain ⟨u, x, xs, rfl, hw, hne, hR, l1, l2, k⟩ := h
    refine ⟨_, (pss_one (ps_ret (pe_ix ix_row (pv 1) (pe_call F_law_take (hr.mono (by omega)) rfl g_law_take k_law_take b_law_take .nil pass0 (pa_cons (pv 0) (pa_cons (pe_callB call_lenR (by rfl) T.b_len PySem.boot_len (pa_cons (pv 1) pa_nil)) pa_nil))) (fun _ _ => rfl)))), ?_⟩
    walk_at "rd"
    simp only [spTake]
    walk_at "rd"
    refine ⟨_, _, rfl, hR, _, rfl, hw, by omega, by omega, fun d H' hb hw' d0 d1 => ?_⟩
    obtain ⟨y, hy⟩ : ∃ y, xs[d.toNat]? = some y := ⟨_, List.getElem?_eq_getElem (by omega)⟩
    exact ⟨xs, d, y, hR.but hb hne, rfl, d0, by omega, hy, k y H' hb hw' (List.mem_of_getElem? hy)⟩
end
end K79

set_option Elab.async false
set_option linter.all false
set_option maxRecDepth 100000
set_option maxHeartbeats 2000000
/-! fields of an instance, read and stored -/
namespace Ob
open PySem PySem.Spec PyProof.Rows L2 Rd Dt Dq Pk
section
variable {σ : L2.St} {H : Hp} {Q : VK} {D : Ends} {ta tv : TE} {K : PySem.W.Frag} {f : Str}
def FA (K : PySem.W.Frag) (H : Hp) (a : Addr) (f : Str) (v : V) : Prop := ∃ C dx fs, H a = some (.ins C dx fs) ∧ Cls K C ∧ NoAttr K C f ∧ fs.lookup f = some v
def SA (K : PySem.W.Frag) (H : Hp) (a : Addr) (f : Str) (C dx : Addr) (fs : List (Str × V)) : Prop := H a = some (.ins C dx fs) ∧ Cls K C ∧ NoAttr K C f ∧ fs.length < 1000
theorem tFld_ : tFld K ta f σ H Q = ta σ H fun x H1 => ∃ a v, x = .ref a ∧ FA K H1 a f v ∧ Q v H1 := by
  unfold tFld
  congr 1
  funext x H1
  refine propext ⟨?_, ?_⟩
  · rintro ⟨a, C, dx, fs, v, e, h1, h2, h3, h4, q⟩
    exact ⟨a, v, e, ⟨C, dx, fs, h1, h2, h3, h4⟩, q⟩
  · rintro ⟨a, v, e, ⟨C, dx, fs, h1, h2, h3, h4⟩, q⟩
    exact ⟨a, C, dx, fs, v, e, h1, h2, h3, h4, q⟩
theorem sFld_ : sFld K ta tv f D σ H = tv σ H fun y H1 => ta σ H1 fun x H2 => ∃ a C dx fs, x = .ref a ∧ SA K H2 a f C dx fs ∧ D.nx σ (upd H2 a (.ins C dx (putF f y fs))) := by
  unfold sFld
  congr 1
  funext y H1
  congr 1
  funext x H2
  refine propext ⟨?_, ?_⟩
  · rintro ⟨a, C, dx, fs, e, h1, h2, h3, h4, q⟩
    exact ⟨a, C, dx, fs, e, ⟨h1, h2, h3, h4⟩, q⟩
  · rintro ⟨a, C, dx, fs, e, ⟨h1, h2, h3, h4⟩, q⟩
    exact ⟨a, C, dx, fs, e, h1, h2, h3, h4, q⟩
end
theorem pe_fldK {X : Cx} {K : PySem.W.Frag} {e : Expr} {f : Str} {pos : Pos} {ta : TE} (hK : X.K = K) (he : PE X e ta) (hb : attributeBase e f X.env (eval e X.env) = eval e X.env) : PE X (.Attribute e f pos) (tFld K ta f) := by
  subst hK
  exact pe_fld he hb
end Ob

set_option Elab.async false
set_option linter.all false
set_option maxRecDepth 100000
set_option maxHeartbeats 2000000
/-! a list beside the empty one -/
namespace Le
open PySem PySem.Spec PyProof.Rows L2 Rd
def rNeLE (K : PySem.W.Frag) : R2 := fun x y H Q => ∃ (a b : Addr) (xs : List V), x = .ref a ∧ y = .ref b ∧ SqL K H a xs ∧ SqL K H b [] ∧ Q (.bl (!decide (xs = []))) H
theorem op_neLE {X : Cx} (hu : X.A.units + 64 < cLine) : OpR X (compareOp .NotEq) (rNeLE X.K) := by
  intro pins s σ H x y v u Q I rx ry h
  obtain ⟨a, b, xs, rfl, rfl, ha, hb, q⟩ := h
  cases rx
  cases ry
  obtain ⟨its, rv, tu, _⟩ := I.list ha
  obtain ⟨its2, rv2, tu2, _⟩ := I.list hb
  cases rv2
  have hl := rv.length
  by_cases e : xs = []
  · subst e
    cases rv
    refine SeqAt.RcNeAt.lists (e := fun _ => true) tu.isList tu2.isList rfl (by omega) (fun j _ h2 => (Nat.not_lt_zero _ h2).elim) X.prog X.w _ _ ?_
    exact ⟨.bl false, H, I, rfl, by simpa using q⟩
  · have hn : its ≠ [] := fun z => e (List.eq_nil_of_length_eq_zero (by rw [hl, z]; rfl))
    refine SeqAt.RcNeAt.lists_lengths tu.isList tu2.isList ?_ (by omega) X.prog X.w _ _ ?_
    · have := List.length_pos_iff.mpr hn
      simp only [List.size_toArray, List.length_nil, bne_iff_ne, ne_eq]
      omega
    · exact ⟨.bl true, H, I, rfl, by rw [decide_eq_false e] at q; exact q⟩
def rEqLE (K : PySem.W.Frag) : R2 := fun x y H Q => ∃ (a b : Addr) (xs : List V), x = .ref a ∧ y = .ref b ∧ SqL K H a xs ∧ SqL K H b [] ∧ Q (.bl (decide (xs = []))) H
theorem op_eqLE {X : Cx} (hu : X.A.units + 64 < cLine) : OpR X (compareOp .Eq) (rEqLE X.K) := by
  intro pins s σ H x y v u Q I rx ry h
  obtain ⟨a, b, xs, rfl, rfl, ha, hb, q⟩ := h
  cases rx
  cases ry
  obtain ⟨its, rv, tu, _⟩ := I.list ha
  obtain ⟨its2, rv2, tu2, _⟩ := I.list hb
  cases rv2
  have hl := rv.length
  by_cases e : xs = []
  · subst e
    cases rv
    refine SeqAt.eq_listAt (e := fun _ => true) tu.isList tu2.isList rfl (by omega) (fun j _ h2 => (Nat.not_lt_zero _ h2).elim) ?_
    exact ⟨.bl true, H, I, rfl, by simpa using q⟩
  · have hn : its ≠ [] := fun z => e (List.eq_nil_of_length_eq_zero (by rw [hl, z]; rfl))
    refine SeqAt.eq_list_lengthsAt tu.isList tu2.isList ?_ (by omega) ?_
    · have := List.length_pos_iff.mpr hn
      simp only [List.size_toArray, List.length_nil, bne_iff_ne, ne_eq]
      omega
    · exact ⟨.bl false, H, I, rfl, by rw [decide_eq_false e] at q; exact q⟩
theorem rNeLE_ {K : PySem.W.Frag} {x y : V} {H : Hp} {Q : VK} : rNeLE K x y H Q = ∃ (a b : Addr) (xs : List V), x = .ref a ∧ y = .ref b ∧ SqL K H a xs ∧ SqL K H b [] ∧ Q (.bl (!decide (xs = []))) H := rfl
theorem rEqLE_ {K : PySem.W.Frag} {x y : V} {H : Hp} {Q : VK} : rEqLE K x y H Q = ∃ (a b : Addr) (xs : List V), x = .ref a ∧ y = .ref b ∧ SqL K H a xs ∧ SqL K H b [] ∧ Q (.bl (decide (xs = []))) H := rfl
theorem op_neLEK {X : Cx} {K : PySem.W.Frag} (hK : X.K = K) (hu : X.A.units + 64 < cLine) : OpR X (compareOp .NotEq) (rNeLE K) := by
  subst hK
  exact op_neLE hu
theorem op_eqLEK {X : Cx} {K : PySem.W.Frag} (hK : X.K = K) (hu : X.A.units + 64 < cLine) : OpR X (compareOp .Eq) (rEqLE K) := by
  subst hK
  exact op_eqLE hu
end Le

set_option Elab.async false
set_option linter.all false
set_option maxRecDepth 100000
set_option maxHeartbeats 2000000
/-! ranges with a step -/
namespace Rg
open PySem PySem.Spec PyProof.Rows L2 Rd
section
variable {TA1 : TA} {g : TG} {tb : TS} {D : Ends} {σ : L2.St} {H : Hp} {tt : TT} {te : TE} {vs : List Nat} {Q : VK}
theorem tFor_range3 : tFor (iRng3 TA1) g tb D σ H = TA1 σ H fun vs H1 => ∃ (i j c : Int) (n : Nat), vs = [.int i, .int j, .int c] ∧ RgC i j c n ∧ tFor (fun _ H R => R (Itc i c n) H) g tb D σ H1 := rfl
theorem for_c {lo c : Int} {n : Nat} (Pv : Nat → L2.St → Hp → Prop) (h0 : Pv 0 σ H)
    (hs : ∀ i σ H, i < n → Pv i σ H → g (.int (lo + (i : Nat) * c)) σ H fun σ2 H2 => tb { D with nx := Pv (i + 1), ct := Pv (i + 1), bk := D.nx } σ2 H2) (hd : ∀ σ H, Pv n σ H → D.nx σ H) :
    tFor (fun _ H R => R (Itc lo c n) H) g tb D σ H := for_it walk_rangeC Pv h0 (fun _ _ _ _ _ => trivial) (fun i x σ H H' hi hp hy => by
      obtain ⟨e, hx⟩ := hy
      subst e hx
      exact hs i σ _ hi hp) hd
theorem tLc_range3 : tLc (iRng3 TA1) g tt te vs σ H Q = TA1 σ H fun ws H1 => ∃ (i j c : Int) (n : Nat), ws = [.int i, .int j, .int c] ∧ RgC i j c n ∧ tLc (fun _ H R => R (Itc i c n) H) g tt te vs σ H1 Q := rfl
end
/-! ### list(range(i, j, c)) -/
def rgC (i c : Int) (n : Nat) : List V := (List.range n).map fun k => V.int (i + (k : Nat) * c)
theorem rgC_length (i c : Int) (n : Nat) : (rgC i c n).length = n := by unfold rgC; rw [List.length_map, List.length_range]
theorem vals_rgC {i c : Int} {n : Nat} {acc : Array Value} (h : ItemsOf (fun k v => ∃ t, v = .int (i + k * c) t) acc n) : Vals (rgC i c n) acc.toList := by
  have e : acc.toList.length = n := by rw [Array.length_toList]; exact h.1
  unfold rgC
  rw [← e]
  refine vals_of_get acc.toList _ fun j u hj => ?_
  obtain ⟨t, rfl⟩ := h.2 j u (by rw [← hj, Array.getElem?_toList])
  exact ⟨t, rfl⟩
def tLstC (ta : TA) : TE := fun σ H Q => ta σ H fun vs H1 => ∃ (i j c : Int) (n : Nat), vs = [.int i, .int j, .int c] ∧ RgC i j c n ∧ n ≤ 2 ^ 24 ∧ ∀ q, H1 q = none → Q (.ref q) (upd H1 q (.lst (rgC i c n)))
theorem tLstC_ {ta : TA} {σ : L2.St} {H : Hp} {Q : VK} : tLstC ta σ H Q = ta σ H fun vs H1 => ∃ (i j c : Int) (n : Nat), vs = [.int i, .int j, .int c] ∧ RgC i j c n ∧ n ≤ 2 ^ 24 ∧ ∀ q, H1 q = none → Q (.ref q) (upd H1 q (.lst (rgC i c n))) := rfl
theorem pe_listC {X : Cx} {a b c : Expr} {ta : TA} {p pos p' pos' : Pos} (hcm : X.calm = true) (hl : Gl X "list") (hlm : X.mg "list" = none) (hg : Gl X "range") (hm : X.mg "range" = none) (ha : PA X [a, b, c] ta)
    (hs : starEach [a, b, c] X.env = (false, eval a X.env) :: starEach [b, c] X.env := by rfl) (hpl : (backTo pos (starEach [b, c] X.env)).any (·.1) = false := by rfl)
    (na : starEach [.Call (.Name "range" p) [a, b, c] [] pos] X.env = (false, eval (.Call (.Name "range" p) [a, b, c] [] pos) X.env) :: starEach [] X.env := by rfl) :
    PE X (.Call (.Name "list" p') [.Call (.Name "range" p) [a, b, c] [] pos] [] pos') (tLstC ta) := by
  refine ⟨fun pins s σ H Q I h => ?_⟩
  refine Call_ (ld_blt I hl hlm boot_list (PyProof.Rows.callWith_type1 (args_cons (Call_ (ld_blt I hg hm boot_range (PyProof.Rows.callWith_type1 (thn (ha.run pos pins s σ H _ I h) fun us s1 ⟨vs, H1, I1, r1, q1⟩ => ?_) hs hpl))) na) na))
  obtain ⟨i, j, k, n, e, ⟨c0, c1, c2, c3⟩, hn, q⟩ := q1
  subst e
  cases r1 with
  | cons r rr =>
    cases rr with
    | cons r' rr =>
      cases rr with
      | cons r'' rr =>
        cases rr
        obtain ⟨t, rfl⟩ := r
        obtain ⟨t', rfl⟩ := r'
        obtain ⟨t'', rfl⟩ := r''
        refine call_range_3 c0 (args_nil ?_) (.inl (PyProof.noPylong_small c1))
        have I2 : Inv X pins σ H1 { s1 with heap := s1.heap.push { cls := .type "range", data := .fields #[.int i t, .int j t', .int k t''] } } := I1.kept (t' := s1.toks) fun b o e => Heap.get?_push_of_some _ e
        refine call_list_range (n := n) (I2.ok.hd hcm) (IsRange.new ..) c2 c3 hn fun h' tk acc c' hk e' hi => ?_
        refine ⟨.ref _, upd H1 _ (.lst (rgC i k n)), I2.laid hk (Nat.le_refl _) (show ObjOk X.prog X.w _ _ _ (.lst (rgC i k n)) from ⟨?_, acc.toList, c', vals_rgC hi, ?_⟩), rfl, q _ (I2.hok.fresh (Nat.le_refl _))⟩
        · rw [rgC_length, sizeLine_eq]; omega
        · rw [Array.toArray_toList]; exact e'
/-- how many -/
def cnt (a b c : Nat) : Nat := if a < b then (b - a - 1) / c + 1 else 0
theorem cnt_size {a b c : Nat} (hc : 0 < c) : Builtin.Range.rangeSize a b c = (cnt a b c : Nat) := by
  unfold Builtin.Range.rangeSize cnt
  rw [if_pos (show (c : Int) > 0 by omega)]
  by_cases h : a < b
  · rw [if_pos (show (a : Int) < b by omega), if_pos h, show (b : Int) - a - 1 = ((b - a - 1 : Nat) : Int) by omega]
    rfl
  · rw [if_neg (show ¬ (a : Int) < b by omega), if_neg h]
    rfl
theorem cnt_le (a b c : Nat) : cnt a b c ≤ b := by
  unfold cnt
  split
  · have := Nat.div_le_self (b - a - 1) c
    omega
  · omega
theorem rgc {a b c : Nat} (hc : 0 < c) (ha : a < 1000000) (hb : b < 1000000) (hc' : c < 1000000) : RgC a b c (cnt a b c) := by
  have hl := cnt_le a b c
  refine ⟨by omega, by omega, ?_, cnt_size hc⟩
  unfold Builtin.Range.small
  rw [cnt_size hc]
  simp only [Builtin.Range.rangeFitsLong, Bool.and_eq_true, Bool.or_eq_true, decide_eq_true_eq, beq_iff_eq, show (c : Int) > 0 by omega, if_true]
  omega
/-- the numbers of it -/
theorem cnt_lt {a b c k : Nat} (hc : 0 < c) : k < cnt a b c ↔ a + k * c < b := by
  unfold cnt
  split
  · rw [Nat.lt_succ_iff, Nat.le_div_iff_mul_le hc]
    omega
  · constructor
    · intro h; omega
    · intro h
      have := Nat.zero_le (k * c)
      omega
/-! a range object, walked -/
def iRngV (te : TE) : TI := fun σ H R => te σ H fun x H1 => ∃ (a : Addr) (lo hi : Int), x = .ref a ∧ H1 a = some (.rng lo hi) ∧ (-(2 ^ 62) ≤ lo ∧ lo < 2 ^ 62 ∧ -(2 ^ 62) ≤ hi ∧ hi < 2 ^ 62) ∧ R (Itr lo (hi - lo).toNat) H1
theorem pi_rngV {X : Cx} {tg e : Expr} {te : TE} (he : PE X e te) : PI X tg e (iRngV te) := by
  refine ⟨fun pins s σ H R I h => ?_⟩
  refine thn (he.run pins s σ H _ I h) fun v s1 ⟨x, H1, I1, r1, q1⟩ => ?_
  obtain ⟨a, lo, hi, ex, ea, ⟨h1, h2, h3, h4⟩, q⟩ := q1
  subst ex
  cases r1
  obtain ⟨t, u, v, eo⟩ := I1.hok a _ ea
  refine wpAny_pyIter_range (show IsRange s1.heap a lo hi 1 t u v from eo) (small_one h1 h2 h3 h4) ?_
  refine pi_one (tk := s1.toks) I1 _ (turn_range _ lo (hi - lo).toNat) ?_ q
  have e1 : lo + ((0 : Nat) : Int) * 1 = lo := by simp
  have e2 : (((hi - lo).toNat : Nat) : Int) - ((0 : Nat) : Int) = Builtin.Range.rangeSize lo hi 1 := by rw [rangeSize_one]; split <;> omega
  show IsRangeIter _ _ (lo + ((0 : Nat) : Int) * 1) ((((hi - lo).toNat : Nat) : Int) - ((0 : Nat) : Int)) 1
  rw [e1, e2]
  exact Heap.get?_push_size _ rfl
theorem tLc_rngV {te ta : TE} {g : TG} {tt : TT} {vs : List Nat} {σ : L2.St} {H : Hp} {Q : VK} : tLc (iRngV te) g tt ta vs σ H Q = te σ H fun x H1 => ∃ (a : Addr) (lo hi : Int), x = .ref a ∧ H1 a = some (.rng lo hi) ∧ (-(2 ^ 62) ≤ lo ∧ lo < 2 ^ 62 ∧ -(2 ^ 62) ≤ hi ∧ hi < 2 ^ 62) ∧ tLc (fun _ H R => R (Itr lo (hi - lo).toNat) H) g tt ta vs σ H1 Q := rfl
end Rg

set_option Elab.async false
set_option linter.all false
set_option maxRecDepth 100000
set_option maxHeartbeats 2000000
/-! sets of numbers that come round, as plain functions -/
namespace Ln
structure Per (f : Nat → Bool) (s p : Nat) : Prop where
  pos : 0 < p
  eq : ∀ n, s ≤ n → f (n + p) = f n
theorem Per.mono {f : Nat → Bool} {s s' p : Nat} (h : Per f s p) (e : s ≤ s') : Per f s' p := ⟨h.pos, fun n hn => h.eq n (Nat.le_trans e hn)⟩
theorem Per.steps {f : Nat → Bool} {s p : Nat} (h : Per f s p) : ∀ (k n : Nat), s ≤ n → f (n + k * p) = f n
  | 0, n, _ => by rw [Nat.zero_mul, Nat.add_zero]
  | k + 1, n, hn => by
    rw [Nat.add_mul, Nat.one_mul, ← Nat.add_assoc, h.eq (n + k * p) (by omega), h.steps k n hn]
theorem Per.lower {f : Nat → Bool} {s s' p q : Nat} (h : Per f s p) (g : Per f s' q) : Per f s q := ⟨g.pos, fun n hn => by
  have e1 := h.steps s' (n + q) (by omega)
  have e2 := h.steps s' n hn
  have hs : s' ≤ n + s' * p := Nat.le_trans (Nat.le_mul_of_pos_right s' h.pos) (Nat.le_add_left _ _)
  have e3 := g.eq (n + s' * p) hs
  rw [← e1, ← e2, ← e3]
  congr 1
  omega⟩
theorem Per.sub {f : Nat → Bool} {s p q : Nat} (h : Per f s p) (g : Per f s q) (e : p < q) : Per f s (q - p) := ⟨by omega, fun n hn => by
  rw [← h.eq (n + (q - p)) (by omega), ← g.eq n hn]
  congr 1
  omega⟩
theorem Per.gcd {f : Nat → Bool} {s : Nat} : ∀ (m p q : Nat), p + q ≤ m → Per f s p → Per f s q → Per f s (Nat.gcd p q)
  | 0, p, q, hm, hp, _ => by have := hp.pos; omega
  | m + 1, p, q, hm, hp, hq => by
    have := hp.pos
    have := hq.pos
    by_cases e : p = q
    · rw [e, Nat.gcd_self]; exact hq
    · by_cases l : p < q
      · have h1 := Per.gcd m p (q - p) (by omega) hp (hp.sub hq l)
        have e2 : Nat.gcd p (q - p) = Nat.gcd p q := by
          have := Nat.gcd_add_self_right p (q - p)
          rw [Nat.sub_add_cancel (by omega)] at this
          exact this.symm
        rwa [e2] at h1
      · have h1 := Per.gcd m (p - q) q (by omega) (hq.sub hp (by omega)) hq
        have e2 : Nat.gcd (p - q) q = Nat.gcd p q := by
          have := Nat.gcd_add_self_left q (p - q)
          rw [Nat.sub_add_cancel (by omega)] at this
          exact this.symm
        rwa [e2] at h1
/-- the least start and the least step -/
structure Norm (f : Nat → Bool) (s t : Nat) : Prop where
  per : Per f s t
  min : ∀ s' p, Per f s' p → t ∣ p
  low : ∀ s', Per f s' t → s ≤ s'
theorem Norm.unique {f : Nat → Bool} {s t s' t' : Nat} (h : Norm f s t) (g : Norm f s' t') : s = s' ∧ t = t' := by
  have e : t = t' := Nat.dvd_antisymm (h.min _ _ g.per) (g.min _ _ h.per)
  subst e
  exact ⟨Nat.le_antisymm (h.low _ g.per) (g.low _ h.per), rfl⟩
theorem Norm.make {f : Nat → Bool} {start step d s : Nat} (hp : Per f start step) (hd : d ∣ step) (pd : Per f start d) (least : ∀ e, 0 < e → e ∣ step → Per f start e → d ≤ e) (hs : Per f s d) (hlow : s = 0 ∨ f (s - 1) ≠ f (s - 1 + d)) : Norm f s d := by
  refine ⟨hs, fun s' p h => ?_, fun s' h => ?_⟩
  · have h1 := hp.lower h
    have h2 := Per.gcd (d + p) d p (Nat.le_refl _) pd h1
    have h3 := least _ h2.pos (Nat.dvd_trans (Nat.gcd_dvd_left d p) hd) h2
    have h4 := Nat.le_of_dvd pd.pos (Nat.gcd_dvd_left d p)
    have e : Nat.gcd d p = d := Nat.le_antisymm h4 h3
    rw [← e]
    exact Nat.gcd_dvd_right d p
  · rcases hlow with z | z
    · omega
    · apply Classical.byContradiction
      intro hn
      exact z (h.eq (s - 1) (by omega)).symm
/-- beyond the start a number stands for one of the first round -/
theorem Per.fold {f : Nat → Bool} {s t : Nat} (h : Per f s t) (n : Nat) (hn : s ≤ n) : f n = f (s + (n - s) % t) := by
  have e := h.steps ((n - s) / t) (s + (n - s) % t) (by omega)
  rw [← e]
  congr 1
  have := Nat.mod_add_div (n - s) t
  rw [Nat.mul_comm] at this
  omega
theorem Per.ext {f g : Nat → Bool} {s t : Nat} (h : Per f s t) (k : Per g s t) (e : ∀ n, n < s + t → f n = g n) : f = g := by
  funext n
  by_cases hn : n < s
  · exact e n (by omega)
  · rw [h.fold n (by omega), k.fold n (by omega)]
    have := Nat.mod_lt (n - s) h.pos
    exact e _ (by omega)
/-- the bits of a set from 0 on -/
structure Bits (f : Nat → Bool) (B m : Nat) : Prop where
  lt : B < 2 ^ m
  eq : ∀ n, n < m → B.testBit n = f n
theorem Bits.at {f : Nat → Bool} {B m : Nat} (h : Bits f B m) (n : Nat) : B.testBit n = (f n && decide (n < m)) := by
  by_cases hn : n < m
  · rw [h.eq n hn, decide_eq_true hn, Bool.and_true]
  · rw [decide_eq_false hn, Bool.and_false]
    exact Nat.testBit_lt_two_pow (Nat.lt_of_lt_of_le h.lt (Nat.pow_le_pow_right (by decide) (by omega)))
theorem Bits.unique {f : Nat → Bool} {B C m : Nat} (h : Bits f B m) (g : Bits f C m) : B = C := Nat.eq_of_testBit_eq fun n => by rw [h.at, g.at]
theorem Bits.cut {f : Nat → Bool} {B m k : Nat} (h : Bits f B m) (e : k ≤ m) : Bits f (B &&& (2 ^ k - 1)) k := by
  refine ⟨Nat.lt_of_le_of_lt Nat.and_le_right (by have := Nat.two_pow_pos k; omega), fun n hn => ?_⟩
  rw [Nat.testBit_and, Nat.testBit_two_pow_sub_one, decide_eq_true hn, Bool.and_true, h.eq n (by omega)]
/-- what the program looks at: the round has a shorter period -/
theorem shorter {f : Nat → Bool} {B start step e : Nat} (hb : Bits f B (start + step)) (hp : Per f start step) (he : 0 < e) (hd : e ∣ step) :
    ((B >>> start) >>> e = (B >>> start) &&& (2 ^ (step - e) - 1)) ↔ Per f start e := by
  have le : e ≤ step := Nat.le_of_dvd hp.pos hd
  constructor
  · intro h
    have one : ∀ j, j + e < step → f (start + j + e) = f (start + j) := fun j hj => by
      have h1 := congrArg (fun x => x.testBit j) h
      simp only [Nat.testBit_shiftRight, Nat.testBit_and, Nat.testBit_two_pow_sub_one] at h1
      rw [decide_eq_true (show j < step - e by omega), Bool.and_true] at h1
      rw [hb.eq _ (by omega), hb.eq _ (by omega)] at h1
      rw [← h1]
      congr 1
      omega
    have chain : ∀ (k i : Nat), i + k * e < step → f (start + i + k * e) = f (start + i) := fun k => by
      induction k with
      | zero => intro i _; rw [Nat.zero_mul, Nat.add_zero]
      | succ k ih =>
        intro i hi
        rw [Nat.add_mul, Nat.one_mul] at hi ⊢
        rw [← ih i (by omega)]
        have := one (i + k * e) (by omega)
        rw [← Nat.add_assoc] at this
        rw [← this]
        congr 1
        omega
    refine ⟨he, fun n hn => ?_⟩
    obtain ⟨k, hk⟩ := hd
    obtain ⟨j, rfl⟩ : ∃ j, n = start + j := ⟨n - start, by omega⟩
    have hr := Nat.mod_lt j hp.pos
    have dj : j = j % step + (j / step) * step := by
      have := Nat.mod_add_div j step
      rw [Nat.mul_comm] at this
      omega
    generalize j % step = r at hr dj
    generalize j / step = q at dj
    subst dj
    have e1 : f (start + (r + q * step)) = f (start + r) := by
      rw [← Nat.add_assoc]
      exact hp.steps q (start + r) (by omega)
    have e2 : f (start + (r + q * step) + e) = f (start + r + e) := by
      have := hp.steps q (start + r + e) (by omega)
      rw [← this]
      congr 1
      omega
    rw [e1, e2]
    by_cases c : r + e < step
    · exact one r c
    · have hk0 : 0 < k := by
        rcases Nat.eq_zero_or_pos k with z | z
        · rw [z, Nat.mul_zero] at hk
          have := hp.pos
          omega
        · exact z
      have hk1 : step = (k - 1) * e + e := by
        rw [hk, Nat.mul_comm]
        obtain ⟨k', rfl⟩ : ∃ k', k = k' + 1 := ⟨k - 1, by omega⟩
        rw [Nat.add_mul, Nat.one_mul, Nat.add_sub_cancel]
      obtain ⟨i, hi, hie⟩ : ∃ i, r = (k - 1) * e + i ∧ i < e := ⟨r - (k - 1) * e, by omega, by omega⟩
      have e3 : f (start + r + e) = f (start + i) := by
        have := hp.eq (start + i) (by omega)
        rw [← this]
        congr 1
        omega
      have e4 := chain (k - 1) i (by omega)
      rw [e3, ← e4]
      congr 1
      omega
  · intro h
    apply Nat.eq_of_testBit_eq
    intro j
    simp only [Nat.testBit_shiftRight, Nat.testBit_and, Nat.testBit_two_pow_sub_one]
    rw [hb.at, hb.at]
    by_cases c : e + j < step
    · rw [decide_eq_true (show start + (e + j) < start + step by omega), decide_eq_true (show start + j < start + step by omega), decide_eq_true (show j < step - e by omega), Bool.and_true, Bool.and_true, Bool.and_true]
      rw [← h.eq (start + j) (by omega)]
      congr 1
      omega
    · rw [decide_eq_false (show ¬ start + (e + j) < start + step by omega), decide_eq_false (show ¬ j < step - e by omega), Bool.and_false, Bool.and_false]
/-- one bit of it -/
theorem bit_at (B n : Nat) : (B >>> n) &&& 1 = if B.testBit n then 1 else 0 := by
  rw [Nat.and_one_is_mod, Nat.shiftRight_eq_div_pow]
  have h := Nat.testBit_eq_decide_div_mod_eq (x := B) (i := n)
  have h2 := Nat.mod_lt (B / 2 ^ n) (show 0 < 2 by decide)
  by_cases c : B / 2 ^ n % 2 = 1
  · rw [h, decide_eq_true c, if_pos rfl]; exact c
  · rw [h, decide_eq_false c, if_neg (by decide)]; omega
end Ln

set_option Elab.async false
set_option linter.all false
set_option maxRecDepth 100000
set_option maxHeartbeats 2000000
/-! words of sets -/
namespace Ln
open PySem PySem.Spec PyProof.Rows L2 Rd Dt
def fW (ws : List (Nat × Nat)) (n : Nat) : Bool := ws.any fun w => decide (n = w.1) || (decide (0 < w.2) && (decide (w.1 < n) && decide ((n - w.1) % w.2 = 0)))
def topW (ws : List (Nat × Nat)) : Nat := ws.foldl (fun m w => max m (w.1 + 1)) 0
theorem top_le : ∀ (ws : List (Nat × Nat)) (m : Nat), m ≤ ws.foldl (fun m w => max m (w.1 + 1)) m ∧ ∀ w ∈ ws, w.1 + 1 ≤ ws.foldl (fun m w => max m (w.1 + 1)) m
  | [], m => ⟨Nat.le_refl _, fun _ z => nomatch z⟩
  | w :: ws, m => by
    rw [List.foldl_cons]
    obtain ⟨h1, h2⟩ := top_le ws (max m (w.1 + 1))
    refine ⟨by omega, fun x hx => ?_⟩
    rcases List.mem_cons.mp hx with rfl | hx
    · omega
    · exact h2 x hx
theorem per_W {ws : List (Nat × Nat)} {p : Nat} (hp : 0 < p) (h : ∀ w ∈ ws, w.2 = 0 ∨ w.2 ∣ p) : Per (fW ws) (topW ws) p := ⟨hp, fun n hn => by
  unfold fW
  rw [Bool.eq_iff_iff, List.any_eq_true, List.any_eq_true]
  have key : ∀ w ∈ ws, (decide (n + p = w.1) || (decide (0 < w.2) && (decide (w.1 < n + p) && decide ((n + p - w.1) % w.2 = 0)))) = (decide (n = w.1) || (decide (0 < w.2) && (decide (w.1 < n) && decide ((n - w.1) % w.2 = 0)))) := fun w hw => by
    have h1 := (top_le ws 0).2 w hw
    have h2 : w.1 + 1 ≤ topW ws := h1
    rw [decide_eq_false (show ¬ n + p = w.1 by omega), decide_eq_false (show ¬ n = w.1 by omega), decide_eq_true (show w.1 < n + p by omega), decide_eq_true (show w.1 < n by omega)]
    rcases h w hw with z | ⟨k, z⟩
    · rw [z]; rfl
    · have e : n + p - w.1 = (n - w.1) + w.2 * k := by omega
      rw [e, Nat.add_mul_mod_self_left]
  exact ⟨fun ⟨w, hw, e⟩ => ⟨w, hw, by rw [← key w hw]; exact e⟩, fun ⟨w, hw, e⟩ => ⟨w, hw, by rw [key w hw]; exact e⟩⟩⟩
/-! ### texts -/
def numT (n : Nat) : Str := Str.ofString (toString (n : Int))
def sufT (d : Nat) : Str := if d = 0 then "" else if d = 1 then "+" else "+" ++ numT d
def wordT (w : Nat × Nat) : Str := numT w.1 ++ sufT w.2
def setT (ws : List (Nat × Nat)) : Str := if ws = [] then "none" else Txt.join " " (ws.map wordT)
theorem numT_len {n : Nat} (h : n < 2 ^ 20) : (numT n).length ≤ 21 := by
  have f := Fit.int (i := (n : Int)) (k := 20) (by decide) (by decide) (by rw [Int.natAbs_natCast]; exact h)
  have e : (PyData.shown (.int (n : Int))) = numT n := by unfold PyData.shown; rfl
  rw [← e]
  exact f.sz
theorem sufT_len {n : Nat} (h : n < 2 ^ 20) : (sufT n).length ≤ 22 := by
  unfold sufT
  split
  · decide
  · split
    · decide
    · rw [Str.length_append]
      have := numT_len h
      have e : ("+" : Str).length = 1 := by decide
      omega
theorem wordT_len {w : Nat × Nat} (h1 : w.1 < 2 ^ 20) (h2 : w.2 < 2 ^ 20) : (wordT w).length ≤ 43 := by
  unfold wordT
  rw [Str.length_append]
  have := numT_len h1
  have := sufT_len h2
  omega
/-! ### in the heap -/
inductive WsAt (H : Hp) : List V → List (Nat × Nat) → Prop
  | nil : WsAt H [] []
  | cons {b : Addr} {w : Nat × Nat} {xs : List V} {ws : List (Nat × Nat)} : H b = some (.tup [.int w.1, .int w.2]) → WsAt H xs ws → WsAt H (.ref b :: xs) (w :: ws)
theorem WsAt.keep {H H' : Hp} (hs : ∀ b x y, H b = some (.tup [x, y]) → H' b = some (.tup [x, y])) : ∀ {xs : List V} {ws : List (Nat × Nat)}, WsAt H xs ws → WsAt H' xs ws
  | _, _, .nil => .nil
  | _, _, .cons e h => .cons (hs _ _ _ e) (h.keep hs)
theorem WsAt.up {H H' : Hp} (s : Same H H') {xs : List V} {ws : List (Nat × Nat)} (h : WsAt H xs ws) : WsAt H' xs ws := h.keep fun b x y e => s _ _ e
theorem WsAt.len {H : Hp} : ∀ {xs : List V} {ws : List (Nat × Nat)}, WsAt H xs ws → xs.length = ws.length
  | _, _, .nil => rfl
  | _, _, .cons _ h => congrArg (· + 1) h.len
theorem WsAt.atV {H : Hp} : ∀ {xs : List V} {ws : List (Nat × Nat)}, WsAt H xs ws → ∀ {i : Nat} {v : V}, xs[i]? = some v → ∃ (w : Nat × Nat) (b : Addr), ws[i]? = some w ∧ v = .ref b ∧ H b = some (.tup [.int w.1, .int w.2])
  | _, _, .nil, i, v, h => by cases i <;> cases h
  | _, _, .cons e h, i, v, hv => by
    cases i with
    | zero => cases hv; exact ⟨_, _, rfl, rfl, e⟩
    | succ i => exact h.atV hv
theorem WsAt.append {H : Hp} : ∀ {xs ys : List V} {ws vs : List (Nat × Nat)}, WsAt H xs ws → WsAt H ys vs → WsAt H (xs ++ ys) (ws ++ vs)
  | _, _, _, _, .nil, g => g
  | _, _, _, _, .cons e h, g => .cons e (h.append g)
end Ln

set_option Elab.async false
set_option linter.all false
set_option maxRecDepth 100000
set_option maxHeartbeats 2000000
/-! comprehensions over a text; dicts whose keys are texts -/
namespace Ls
open PySem PySem.Spec PyProof.Rows L2 Rd Dt
section
variable {K : PySem.W.Frag} {H : Hp} {σ : L2.St} {Q : VK} {g : TG} {tt : TT} {te ta : TE} {vs : List Nat}
theorem tLc_str : tLc (iStr ta) g tt te vs σ H Q = ta σ H fun v H1 => ∃ x, v = .str x ∧ tLc (fun _ H R => R (Its x) H) g tt te vs σ H1 Q := rfl
theorem lc_s {z : Str} (Pv : Addr → Nat → Hp → Prop) (h : ∀ D, H D = none → Pv D 0 (upd H D (.lst [])) ∧ (∀ i c H', z.cps.toList[i]? = some c → Pv D i H' → Lturn g tt te vs σ D (.str ⟨#[c]⟩) H' (Pv D (i + 1))) ∧ (∀ H', Pv D z.cps.toList.length H' → Q (.ref D) H')) :
    tLc (fun _ H R => R (Its z) H) g tt te vs σ H Q := fun D hD => lc_it walk_str (Pv D) (h D hD).1 (fun _ _ _ _ => trivial) (fun i x H H' hi hp hy => by
      obtain ⟨e, c, hc, hx⟩ := hy
      subst e hx
      exact (h D hD).2.1 i c _ (by rw [Array.getElem?_toList]; exact hc) hp) (by
      have := (h D hD).2.2
      rwa [Array.length_toList] at this)
theorem sDPut_ {td ty tv : TE} {D : Ends} : sDPut td ty tv D σ H = tv σ H fun v H1 => td σ H1 fun x H2 => ty σ H2 fun y H3 => ∃ a H4, x = .ref a ∧ DPut H3 a y v H4 ∧ D.nx σ H4 := rfl
end
/-- x in a list, within a comprehension -/
theorem op_in_seqK {X : Cx} {K : PySem.W.Frag} (hK : X.K = K) : OpR X (compareOp .In) (rIn K false) := by
  subst hK
  exact op_in_seq
/-- a dict whose keys are these texts -/
def DS (H : Hp) (p : Addr) (ks : List Str) : Prop := ∃ kvs : List (Key × V), H p = some (.dK kvs) ∧ kvs.map (·.1) = ks.map Sum.inr
theorem putK_keys {kvs : List (Key × V)} {ks : List Str} (h : kvs.map (·.1) = ks.map Sum.inr) (c : Str) (v : V) : (putK kvs (Sum.inr c) v).map (·.1) = (if c ∈ ks then ks else ks ++ [c]).map Sum.inr := by
  have ha : (kvs.any fun kv => decide (kv.1 = Sum.inr c)) = decide (c ∈ ks) := by
    have e1 : (kvs.any fun kv => decide (kv.1 = Sum.inr c)) = ((kvs.map (·.1)).any fun k => decide (k = Sum.inr c)) := by
      rw [List.any_map]; rfl
    rw [e1, h, List.any_map]
    rw [Bool.eq_iff_iff, List.any_eq_true, decide_eq_true_eq]
    constructor
    · rintro ⟨x, hx, e⟩
      have : (Sum.inr x : Key) = Sum.inr c := of_decide_eq_true e
      injection this with this
      rw [← this]; exact hx
    · exact fun hx => ⟨c, hx, decide_eq_true rfl⟩
  unfold putK
  rw [ha]
  by_cases hc : c ∈ ks
  · rw [if_pos (decide_eq_true hc), if_pos hc, ← h, List.map_map]
    refine List.map_congr_left fun kv _ => ?_
    show (if kv.1 = Sum.inr c then (kv.1, v) else kv).1 = kv.1
    split <;> rfl
  · rw [if_neg (by rw [decide_eq_false hc]; decide), if_neg hc, List.map_append, h, List.map_append]
    rfl
theorem DS.put {H : Hp} {p : Addr} {ks : List Str} (h : DS H p ks) (hl : ks.length < sizeLine) (c : Str) (v : V) : ∃ H', DPut H p (.str c) v H' ∧ DS H' p (if c ∈ ks then ks else ks ++ [c]) ∧ ∃ o, H' = upd H p o := by
  obtain ⟨kvs, e, hk⟩ := h
  refine ⟨_, DPut.k (k := Sum.inr c) (v := v) e ?_, ⟨_, upd_same, putK_keys hk c v⟩, _, rfl⟩
  have := congrArg List.length hk
  rw [List.length_map, List.length_map] at this
  omega
end Ls

set_option Elab.async false
set_option linter.all false
set_option maxRecDepth 100000
set_option maxHeartbeats 2000000
/-! repr of a list of data; f(k = v, ..) within a try -/
namespace Rl
open PySem PySem.Spec PyProof.Rows L2 Rd Dt Dq
def rReprL (K : PySem.W.Frag) : List V → Hp → VK → Prop := fun vs H Q => ∃ (a : Addr) (xs : List V) (ds : List PyData), vs = [.ref a] ∧ H a = some (.lst xs) ∧ DqAll K H xs ds ∧ PyData.depthAll ds ≤ 49 ∧ wtAll ds ≤ 1000000 ∧ Q (.str (PyData.list ds).shown) H
theorem rReprL_ {K : PySem.W.Frag} {vs : List V} {H : Hp} {Q : VK} : rReprL K vs H Q = ∃ (a : Addr) (xs : List V) (ds : List PyData), vs = [.ref a] ∧ H a = some (.lst xs) ∧ DqAll K H xs ds ∧ PyData.depthAll ds ≤ 49 ∧ wtAll ds ≤ 1000000 ∧ Q (.str (PyData.list ds).shown) H := rfl
theorem call_reprL {X : Cx} {K : PySem.W.Frag} (hK : X.K = K) (S : SysD K) (hG : X.A.guards = some []) (hu : X.A.units + 64 < cLine) : CallR X (.builtin "repr") (rReprL K) := by
  subst hK
  intro pins s σ H xs us Q I rv h
  obtain ⟨a, ys, ds, rfl, ha, hD, hdp, hw, q⟩ := h
  obtain ⟨h1, h2, h3⟩ := DqAll.size ds _ hD
  have hs : (PyData.list ds).showable = true := by rw [PyData.showable, h1]
  have hz' : (PyData.list ds).shown.length ≤ 3 + wtAll ds := by
    rw [PyData.shown]
    have := listText_len_le (PyData.shownAll ds)
    omega
  have hz : (PyData.list ds).shown.length ≤ sizeLine := Nat.le_trans hz' (Nat.le_trans (show 3 + wtAll ds ≤ 1000003 by omega) (by rw [sizeLine_eq]; decide))
  have hd : (PyData.list ds).depth ≤ 50 := by rw [PyData.depth]; omega
  cases rv with
  | cons rx rn =>
    cases rn
    cases rx
    obtain ⟨its, rv, ⟨o, n, ho, hc, _, hd'⟩, _⟩ := I.list (SqL.of ha)
    obtain ⟨as, hr, hn⟩ := DqAll.reads S I ds _ its hD rv
    have nm : sysModules ∉ a :: as := fun z => by
      rcases List.mem_cons.mp z with z | z
      · obtain ⟨o', k1, k2⟩ := S
        have e := I.kIn _ _ k1
        rw [z, ho] at e
        cases e
        exact absurd (Value.type.inj (hc.symm.trans k2)) (by decide)
      · exact hn z
    exact repr_of_reads' (Reads.list ho hc hd' hr) hs (fun _ => nm) hG (by omega) (fun _ _ z => z) (fun h' u tk hk => ⟨.str _, H, I.kept (t' := tk) hk, ⟨u, rfl⟩, q⟩) hz
def tCallKS (sp : Sp) (gV : List V → List V) (m : Nat) (E : L2.St → XK) (tk : TA) : TE := fun σ H Q => tk σ H fun zs H1 => zs.length = m ∧ sp (gV zs) H1 Q (E σ)
theorem tCallKS_ {sp : Sp} {gV : List V → List V} {m : Nat} {E : L2.St → XK} {tk : TA} {σ : L2.St} {H : Hp} {Q : VK} : tCallKS sp gV m E tk σ H Q = tk σ H fun zs H1 => zs.length = m ∧ sp (gV zs) H1 Q (E σ) := rfl
section
variable {X : Cx} {CX : CXT} {k : Nat} {f : Addr} {fd : FuncData} {ps ks : List Str} {sp : Sp} {E : L2.St → XK} {x : Str} {p pos : Pos} {kws : List Keyword} {tk : TA} {g : List Value → List Value} {gV : List V → List V}
theorem pe_callKwS (F : FnOk X.prog X.w X.K X.mg X.base CX k f fd ps sp) (hr : Room k X.A) (hg : Gl X x) (hm : X.mg x = some (.ref f)) (hk : PySem.W.keepIn X.K (.ref f) = true)
    (hb : KBn X.K fd ps 0 ks (fun _ ws => g ws) (fun _ zs => gV zs)) (hx : ∀ σ, PassesAt CX X σ (E σ)) (hkw : PK X kws tk)
    (hall : (backToKw pos (keywordEach kws X.env)).all (·.1.isSome) = true := by rfl) (hks : (backToKw pos (keywordEach kws X.env)).filterMap (·.1) = ks := by rfl)
    (hdb : (x == ("__debug__" : Str)) = false := by decide)
    (hpl : ((backTo pos (starEach [] X.env)).any (·.1) || (backToKw pos (keywordEach kws X.env)).any (·.1.isNone)) = false := by rfl) :
    PE X (.Call (.Name x p) [] kws pos) (tCallKS sp gV ks.length E tk) := by
  constructor
  intro pins s σ H Q I h
  refine wpAny_Call_Name_kw (ld_glob I hg hm ?_ hdb)
  refine PySem.W.callWith_KW0 (h₀ := X.base) I.ok.mod.kin hk hall ?_ hpl
  refine thn (hkw.run pos pins s σ H _ I h) ?_
  rintro ws s2 ⟨zs, H2, I2, rz, l2, q2⟩
  refine ⟨I2.kIn, ?_⟩
  rw [hks]
  have r2 := hb.rel (.nil : Vals [] []) rz
  refine wpAny_call (codeAny_mono (F.run X.A X.stack s2 H2 ⟨[], ks.zip ws⟩ (g ws) (gV zs) Q (E σ) hr I2.env0 (hb.to s2 [] ws I2.kIn rfl (rz.length.symm.trans l2)) r2 q2) fun r s' hq => ?_)
  cases r with
  | error e => exact hx σ pins H2 s2 e s' I2 hq
  | ok fl =>
    cases fl with
    | ret u => exact I2.after hq
    | next => exact False.elim hq
    | brk => exact False.elim hq
    | cont => exact False.elim hq
end
end Rl

set_option Elab.async false
set_option linter.all false
set_option maxRecDepth 100000
set_option maxHeartbeats 2000000
/-! texts of sets, read again -/
namespace Ln
open PySem PySem.Spec PyProof.Rows L2 Rd Dt TL
def nl (n : Nat) : Nat := if n < 10 then 1 else if n < 100 then 2 else if n < 1000 then 3 else 4
def okNum (n : Nat) : Bool :=
  decide ((numT n).length = nl n) && (decide (intText? (numT n) = some (n : Int)) && ((numT n).cps.toList.all (fun c => decide (48 ≤ c) && decide (c ≤ 57)) && (decide ((numT n).length = 1) || !decide ((numT n).cps.toList[0]? = some 48))))
theorem okNum_all : (List.range 1001).all okNum = true := by decide +kernel
theorem okNum_at {n : Nat} (h : n ≤ 1000) : okNum n = true := List.all_eq_true.mp okNum_all n (List.mem_range.mpr (by omega))
theorem numT_at {n : Nat} (h : n ≤ 1000) : (numT n).length = nl n ∧ intText? (numT n) = some (n : Int) ∧ (∀ c ∈ (numT n).cps.toList, 48 ≤ c ∧ c ≤ 57) ∧ ((numT n).length = 1 ∨ (numT n).cps.toList[0]? ≠ some 48) := by
  have := okNum_at h
  unfold okNum at this
  rw [Bool.and_eq_true, Bool.and_eq_true, Bool.and_eq_true, decide_eq_true_eq, decide_eq_true_eq, List.all_eq_true] at this
  obtain ⟨h1, h2, h3, h4⟩ := this
  refine ⟨h1, h2, fun c hc => ?_, ?_⟩
  · have := h3 c hc
    rw [Bool.and_eq_true, decide_eq_true_eq, decide_eq_true_eq] at this
    exact this
  · rw [Bool.or_eq_true, decide_eq_true_eq, Bool.not_eq_true', decide_eq_false_iff_not] at h4
    exact h4
theorem nl_mono {n m : Nat} (h : n ≤ m) : nl n ≤ nl m := by
  unfold nl
  split <;> split <;> (try split) <;> (try split) <;> (try split) <;> (try split) <;> omega
theorem nl_pos (n : Nat) : 1 ≤ nl n ∧ nl n ≤ 4 := by
  unfold nl
  split <;> (try split) <;> (try split) <;> omega
def rowW (w : Nat × Nat) : List Str := if w.2 = 0 then [numT w.1] else if w.2 = 1 then [numT w.1, ""] else [numT w.1, numT w.2]
theorem tl_plus : tl "+" = 43 :: [] := by decide +kernel
theorem tl_spc : tl " " = 32 :: [] := by decide +kernel
theorem rowW_no {w : Nat × Nat} (h1 : w.1 ≤ 1000) (h2 : w.2 ≤ 1000) : ∀ p ∈ rowW w, 43 ∉ tl p := by
  have a1 : 43 ∉ tl (numT w.1) := fun z => by have := (numT_at h1).2.2.1 43 z; omega
  have a2 : 43 ∉ tl (numT w.2) := fun z => by have := (numT_at h2).2.2.1 43 z; omega
  have a3 : 43 ∉ tl "" := by decide +kernel
  intro p hp
  unfold rowW at hp
  split at hp
  · rw [List.mem_singleton.mp hp]; exact a1
  · split at hp <;> rcases List.mem_cons.mp hp with e | hp
    · rw [e]; exact a1
    · rw [List.mem_singleton.mp hp]; exact a3
    · rw [e]; exact a1
    · rw [List.mem_singleton.mp hp]; exact a2
theorem row_join (w : Nat × Nat) : Txt.join "+" (rowW w) = wordT w := by
  rw [join_eq]
  unfold rowW wordT sufT
  split
  · show numT w.1 = numT w.1 ++ ""
    exact (Str.append_empty _).symm
  · split
    · show numT w.1 ++ "+" ++ "" = numT w.1 ++ "+"
      exact Str.append_empty _
    · show numT w.1 ++ "+" ++ numT w.2 = numT w.1 ++ ("+" ++ numT w.2)
      exact Str.append_assoc _ _ _
theorem row_split {w : Nat × Nat} (h1 : w.1 ≤ 1000) (h2 : w.2 ≤ 1000) : Txt.split (wordT w) "+" = rowW w := by
  rw [← row_join]
  exact split_join tl_plus (by decide +kernel) (by unfold rowW; split <;> (try split) <;> simp) (rowW_no h1 h2)
theorem word_no {w : Nat × Nat} (h1 : w.1 ≤ 1000) (h2 : w.2 ≤ 1000) : 32 ∉ tl (wordT w) := by
  have a1 : 32 ∉ tl (numT w.1) := fun z => by have := (numT_at h1).2.2.1 32 z; omega
  have a2 : 32 ∉ tl (numT w.2) := fun z => by have := (numT_at h2).2.2.1 32 z; omega
  have a3 : 32 ∉ tl "" := by decide +kernel
  have a4 : 32 ∉ tl "+" := by decide +kernel
  unfold wordT sufT
  rw [tl_append, List.mem_append]
  rintro (z | z)
  · exact a1 z
  · split at z
    · exact a3 z
    · split at z
      · exact a4 z
      · rw [tl_append, List.mem_append] at z
        rcases z with z | z
        · exact a4 z
        · exact a2 z
theorem set_split {ws : List (Nat × Nat)} (hw : ws ≠ []) (h : ∀ w ∈ ws, w.1 ≤ 1000 ∧ w.2 ≤ 1000) : Txt.split (setT ws) " " = ws.map wordT := by
  unfold setT
  rw [if_neg hw]
  refine split_join tl_spc (by decide +kernel) (by simpa using hw) fun p hp => ?_
  obtain ⟨w, hw', rfl⟩ := List.mem_map.mp hp
  exact word_no (h w hw').1 (h w hw').2
/-- a text of words is not 'none' -/
theorem set_none {ws : List (Nat × Nat)} (hw : ws ≠ []) (h : ∀ w ∈ ws, w.1 ≤ 1000 ∧ w.2 ≤ 1000) : setT ws ≠ "none" := fun z => by
  have e := set_split hw h
  rw [z] at e
  have e2 : Txt.split (Txt.join " " [Str.ofString "none"]) " " = [Str.ofString "none"] := split_join tl_spc (by decide +kernel) (by simp) (fun p hp => by rw [List.mem_singleton.mp hp]; decide +kernel)
  have e3 : Txt.join " " [Str.ofString "none"] = "none" := by rw [join_eq]; rfl
  rw [e3] at e2
  rw [e2] at e
  cases ws with
  | nil => exact hw rfl
  | cons w r =>
    cases r with
    | cons _ _ => simp at e
    | nil =>
      have e4 : wordT w = "none" := by
        have := List.cons.inj e
        exact this.1.symm
      have h1 := numT_at (h w (List.mem_cons_self ..)).1
      have hl := (nl_pos w.1).1
      have hc : 0 < (numT w.1).cps.toList.length := by
        have := h1.1
        show 0 < (numT w.1).cps.toList.length
        rw [Array.length_toList]
        show 0 < (numT w.1).length
        omega
      have hm : (numT w.1).cps.toList[0] ∈ tl (wordT w) := by
        unfold wordT
        rw [tl_append, List.mem_append]
        exact .inl (List.getElem_mem _)
      rw [e4] at hm
      have := h1.2.2.1 _ (List.getElem_mem hc)
      have e5 : tl "none" = [110, 111, 110, 101] := by decide +kernel
      rw [e5] at hm
      simp only [List.mem_cons, List.not_mem_nil, or_false] at hm
      omega
end Ln

set_option Elab.async false
set_option linter.all false
set_option maxRecDepth 100000
set_option maxHeartbeats 2000000
/-! math.lcm of two small numbers above 0; fields as targets of a tuple -/
namespace Lc
open PySem PySem.Spec PyProof.Rows L2 Rd Dt Dq Pk
section
variable {X : Cx}
def rLcm : List V → Hp → VK → Prop := fun vs H Q => ∃ a b : Nat, vs = [.int a, .int b] ∧ a < 65536 ∧ b < 65536 ∧ Q (.int ((Nat.lcm a b : Nat) : Int)) H
theorem lcm_lt {a b : Nat} (ha : a < 65536) (hb : b < 65536) : Nat.lcm a b < 2 ^ 32 := by
  have h1 : Nat.lcm a b ≤ a * b := Nat.div_le_self _ _
  have h2 : a * b ≤ 65535 * 65535 := Nat.mul_le_mul (by omega) (by omega)
  omega
theorem cr_lcm : CallR X (.builtin "math.lcm") rLcm := by
  intro pins s σ H vs us Q I r h
  obtain ⟨a, b, rfl, ha, hb, q⟩ := h
  obtain ⟨t, u, rfl⟩ := Vals.int2 r
  refine PySem.W.mg_lcm_v (by show (a : Int).natAbs < 2 ^ 64; omega) (by show (b : Int).natAbs < 2 ^ 64; omega) (c := ((Nat.lcm a b : Nat) : Int)) ?_ ?_ ⟨.int _, H, I.tok _, ⟨_, rfl⟩, q⟩
  · rw [Nat.lcm_one_left]
    rfl
  · show (Nat.lcm a b).log2 < bitsLine
    have := lcm_lt ha hb
    by_cases c : Nat.lcm a b = 0
    · rw [c]; decide
    · have := (Nat.log2_lt c).mpr this
      have e : bitsLine = 134217728 := by decide
      omega
/-- e.f, a target -/
def gFld (K : PySem.W.Frag) (ta : TE) (f : Str) : TG := fun v σ H Q => ta σ H fun x H1 => ∃ a C dx fs, x = .ref a ∧ Ob.SA K H1 a f C dx fs ∧ Q σ (upd H1 a (.ins C dx (putF f v fs)))
theorem pg_fld {o : Expr} {f : Str} {pos : Pos} {ta : TE} (ha : PE X o ta) : PG X (.Attribute o f pos) (gFld X.K ta f) := by
  refine ⟨fun pins s σ H v u Q I r h => ?_⟩
  rw [arm_assign_Attribute]
  refine wpAny_bind (wpAny_holding (thn (ha.run pins s σ H _ I h) fun ov s1 ⟨x, H1, I1, rx, a, C, dx, fs, ex, ⟨ea, c, n, l⟩, q⟩ => ?_))
  subst ex
  obtain rfl : ov = Value.ref a := rx
  refine wpAny_bind (wpAny_standAt (wpAny_bind (wpAny_holding (setattr_ok I1 ea c n l r fun s2 I2 => ?_))))
  exact wpAny_release ⟨σ, _, I2, q⟩
end

theorem _root_.L2.Room.units65 {k : Nat} {A : Around} (r : Room k A) : A.units + 65 < cLine := by have := r.un; omega
theorem op_inDK {X : Cx} {K : PySem.W.Frag} (hK : X.K = K) (hu : X.A.units + 65 < cLine) : OpR X (compareOp .In) (rInD K) := by
  subst hK
  exact op_inD hu
theorem rInD_ {K : PySem.W.Frag} {x y : V} {H : Hp} {Q : VK} : rInD K x y H Q = ∃ d ds, Dp K H x d ∧ Dp K H y (.list ds) ∧ SeqAt.shaped d = true ∧ SeqAt.shaped (.list ds) = true ∧ Q (.bl (ds.any fun z => PyData.eqv z d)) H := rfl
end Lc

set_option Elab.async false
set_option linter.all false
set_option maxRecDepth 100000
set_option maxHeartbeats 4000000
namespace K79
open PySem PySem.Spec PyProof.Rows L2 Rd Dt Dq Pk Ln
local macro_rules | `(tactic| walk_at "rd") => `(tactic| try simp only [↓Rg.tFor_range3, ↓Rg.tLc_range3, ↓Rg.tLstC_, ↓Rg.tLc_rngV, ↓Le.rNeLE_, ↓Le.rEqLE_, ↓Ls.tLc_str, ↓Ls.sDPut_, ↓Rl.rReprL_, ↓Rl.tCallKS_, ↓Ob.tFld_, ↓Ob.sFld_, ↓tVar_, ↓tC_, ↓tM1, ↓tDNewK_, ↓tOp_, ↓tUn_, ↓rI_, ↓rI0_, ↓rU_, ↓eq_ii, ↓ne_ii, ↓eq_ss, ↓ne_ss, ↓eq_bb, ↓ne_bb, ↓tAndV_, ↓tOrV_, ↓tNotV_, ↓tIf_, ↓tTest_, ↓tB_, ↓tAnd_, ↓tOr_, ↓tNot_, ↓tChain_, ↓tNil_, ↓tCons_, ↓tTup_, ↓tLst_, ↓tCB_, ↓tCall_, ↓tSeq_, ↓tNext_, ↓tRet_, ↓tRetN_, ↓tDrop_, ↓tBreak_, ↓tNever_, ↓tIfS_, ↓tAsg_, ↓gName_, ↓gTup_, ↓gCons_, ↓gNil_, ↓gSub_, ↓tPar_, ↓tPar3_, ↓tSl_, ↓tNoPart_, ↓tPart_, ↓tBM_, ↓tFor_range1, ↓tFor_range2, ↓tFor_list, ↓tFor_tup, L2.start, List.headD_cons, List.headD_nil, List.tail_cons, List.map_cons, List.map_nil, List.length_cons, List.length_nil, List.replicate, List.append_nil, List.nil_append, List.cons_append, List.getElem?_cons_zero, List.getElem?_cons_succ, List.set_cons_zero, List.set_cons_succ, Option.some.injEq, V.int.injEq, V.bl.injEq, V.str.injEq, V.ref.injEq, exists_eq_left, exists_eq_left', exists_eq_right, exists_eq, exists_and_left, and_true, true_and, decide_eq_true_eq, Nat.reduceAdd, Nat.reduceSub, Nat.add_zero, Nat.zero_add, List.cons.injEq, Bool.not_eq_true', decide_eq_false_iff_not, eq_self, reduceCtorEq, Bool.false_eq_true, if_true, if_false, ite_true, ite_false, and_self, ↓tLc_range1, ↓tLc_range2, ↓tLc_list, ↓tLc_tup, ↓tYes_, wipe0, wipe1, ↓tCallS_, ↓rIxL_, ↓rIxT_, ↓rSlL_, ↓rCat_, ↓rSetL_, ↓rRep_, ↓rGcd_, ↓tCallK_, ↓gUnl_, ↓tRaise_, decide_true, decide_false, not_true_eq_false, not_false_eq_true, false_and, or_false, false_or, and_false, and_assoc, exists_const, forall_const, forall_eq'])

section
variable {P : Program} {w : World} {K : PySem.W.Frag} {mg : Str → Option Value} {base : Heap}
theorem lg {n : Nat} (h : n < 2 ^ 20) : (n : Int).natAbs.log2 < 1920 := by
  rw [Int.natAbs_natCast]
  by_cases z : n = 0
  · rw [z, Nat.log2_zero]; decide
  · have := (Nat.log2_lt z).mpr h
    omega
theorem lines {s : Str} {n : Nat} (h : s.length ≤ n) (e : n ≤ 1000000) : s.length ≤ sizeLine := Nat.le_trans h (Nat.le_trans e (by rw [sizeLine_eq]; decide))
/-! ### number_in, row_in, rows_in -/
theorem fig_has {c : Nat} (h1 : 48 ≤ c) (h2 : c ≤ 57) : c ∈ fig.cps.toList := by
  have e : fig.cps.toList = [48, 49, 50, 51, 52, 53, 54, 55, 56, 57] := by decide +kernel
  rw [e]
  simp only [List.mem_cons, List.not_mem_nil, or_false]
  omega
theorem fig_dec {c : Nat} (h1 : 48 ≤ c) (h2 : c ≤ 57) : decide (c ∈ fig.cps.toList) = true := decide_eq_true (fig_has h1 h2)
theorem numT_ne {n : Nat} (h : n ≤ 1000) : ¬ numT n = "" := fun z => by
  have h1 := (numT_at h).1
  have h2 := nl_pos n
  rw [z] at h1
  have e : (Str.ofString "").length = 0 := by decide
  omega
def niP (H : Hp) (D : Addr) (j : Nat) (H' : Hp) : Prop := Same H H' ∧ H' D = some (.lst [])
def spNumIn : Sp := fun vs H Q _ => ∃ n h : Nat, vs = [.str (numT n), .int h] ∧ n ≤ h ∧ h ≤ 1000 ∧ ∀ H', Same H H' → Q (.int n) H'
end
end K79

set_option Elab.async false
set_option linter.all false
set_option maxRecDepth 100000
set_option maxHeartbeats 2000000
/-! a head's hook that looks at the modules' table too -/
namespace Sm
open PySem PySem.Spec PyProof.Rows L2
open He in
def obsS (n : Nat) (fa : List Fa) (fn : List DefD) (ex : PySem.W.Frag → Bool) (g : Addr → Option Obj) : Ga.AlM := (obsD fa fn (frG g (sysModules :: asD g n)), ex (frG g (sysModules :: asD g n)))
open He in
def hookS (n : Nat) (fa : List Fa) (fn : List DefD) (ex : PySem.W.Frag → Bool) : PySem.W.Hook where
  α := Ga.AlM
  obs := fun s => obsS n fa fn ex s.heap.get?
  val := fun _ => (valD fn, true)
  says := fun _ h => ∃ K : PySem.W.Frag, K.In h ∧ SaysD fa fn K ∧ ex K = true
  of := fun _ _ e => ⟨_, frG_in, congrArg Prod.fst e, congrArg Prod.snd e⟩
  keeps := fun _ _ _ ⟨K, hK, c⟩ k => ⟨K, PySem.W.Frag.In.keeps hK k, c⟩
open He in
theorem obsS_eq {n : Nat} {fa : List Fa} {fn : List DefD} {ex : PySem.W.Frag → Bool} {g : Addr → Option Obj} {s : Shared} (h : ∀ a, g a = s.heap.get? a) : obsS n fa fn ex g = (hookS n fa fn ex).obs s := by
  obtain rfl : g = s.heap.get? := funext h
  rfl
def sysB (K : PySem.W.Frag) : Bool := match K.lookup sysModules with
  | some o => decide (o.cls = .type "dict")
  | none => false
theorem sysB_ok {K : PySem.W.Frag} (h : sysB K = true) : Dq.SysD K := by
  unfold sysB at h
  split at h
  · rename_i o e
    exact ⟨o, e, of_decide_eq_true h⟩
  · cases h
end Sm

set_option Elab.async false
set_option linter.all false
set_option maxRecDepth 100000
set_option maxHeartbeats 2000000
/-! properties: read as e.f; what a head tells of them -/
namespace Prp
open PySem PySem.Spec PyProof.Rows L2 Rd Dt Dq Pk
/-- a property as its readers know it -/
structure PrC (P : Program) (w : World) (K : PySem.W.Frag) (mg : Str → Option Value) (base : Heap) (k : Nat) (C : Addr) (f : Str) (sp : Sp) (p g : Addr) (fd : FuncData) : Prop where
  pr : PropOf K C f p g
  bn : Binds K fd ["self"] []
  ok : FnOk P w K mg base CX0 k g fd ["self"] sp
theorem PrC.up {P : Program} {w : World} {K : PySem.W.Frag} {mg : Str → Option Value} {base : Heap} {k : Nat} {C : Addr} {f : Str} {sp : Sp} {p g : Addr} {fd : FuncData} (c : PrC P w K mg base k C f sp p g fd) {m : Nat} (h : k ≤ m) : PrC P w K mg base m C f sp p g fd := ⟨c.pr, c.bn, c.ok.mono h⟩
section
variable {σ : L2.St} {H : Hp} {Q : VK} {ta : TE} {C : Addr} {sp : Sp} {E : XK} {dvs : List V}
theorem tProp_ : tProp C sp dvs E ta σ H Q = ta σ H fun x H1 => ∃ a dx fs, x = .ref a ∧ H1 a = some (.ins C dx fs) ∧ sp (.ref a :: dvs) H1 Q E := rfl
end
theorem pe_propK {X : Cx} {K : PySem.W.Frag} {mg : Str → Option Value} {base : Heap} {P : Program} {w : World} {k : Nat} {C p g : Addr} {f : Str} {fd : FuncData} {sp : Sp} {e : Expr} {pos : Pos} {ta : TE} {E : XK}
    (h1 : X.prog = P) (h2 : X.w = w) (h3 : X.K = K) (h4 : X.mg = mg) (h5 : X.base = base) (he : PE X e ta) (c : Cls K C) (F : PrC P w K mg base k C f sp p g fd) (hr : Room (k + 1) X.A) (hx : Passes CX0 X.nox E)
    (hab : attributeBase e f X.env (eval e X.env) = eval e X.env) : PE X (.Attribute e f pos) (tProp C sp [] E ta) := by
  subst h1 h2 h3 h4 h5
  exact pe_prop he c F.pr F.ok hr F.bn .nil hx hab
/-! ### the head -/
structure PrD where
  cls : Str
  d : He.DefD
def prA (K : PySem.W.Frag) (p : PrD) : Addr := He.ma K (He.ga K p.cls) p.d.name
def geA (K : PySem.W.Frag) (p : PrD) : Addr := match PySem.W.recIn K (prA K p) "property" with
  | some (.ref g :: _) => g
  | _ => 0
/-- a head's fragment seen so that the getter stands under the class's name -/
def seen (K : PySem.W.Frag) (a : Addr) : He.FnW := match K.lookup a with
  | none => none
  | some o => (match o.data with
    | .func fd => some (fd.name, fd.qualname, fd.params, fd.body, fd.scope, fd.globals, fd.closure, fd.builtins)
    | _ => none)
def bare (K : PySem.W.Frag) (a : Addr) (q : Str) : Bool := match K.lookup a with
  | none => false
  | some o => (match o.data with
    | .func fd => PySem.W.keepIn K (.ref a) && (PySem.W.codeIn K fd.code q && (He.dflB K fd.defaults [] && He.kwdB K fd.kwdefaults []))
    | _ => false)
theorem funA {K : PySem.W.Frag} {a : Addr} {d : He.DefD} (e : seen K a = d.val) (c : bare K a d.qual = true) : ∃ fd, FunD K d.name d.qual d.params d.body d.scope [] [] a fd := by
  unfold seen at e
  unfold bare at c
  rcases hq : K.lookup a with _ | ⟨oc, od, dt, sl⟩
  · rw [hq] at c
    exact Bool.noConfusion c
  · rw [hq] at e c
    dsimp only at e c
    cases dt with
    | func fd =>
      dsimp only at e c
      rw [Bool.and_eq_true, Bool.and_eq_true, Bool.and_eq_true] at c
      obtain ⟨c1, c2, c3, c4⟩ := c
      obtain ⟨a1, a2, a3, a4, a5, a6, a7, a8, a9, b1, b2, b3, b4, b5, b6⟩ := fd
      unfold He.DefD.val at e
      dsimp only at e
      injection e with e
      rw [Prod.mk.injEq, Prod.mk.injEq, Prod.mk.injEq, Prod.mk.injEq, Prod.mk.injEq, Prod.mk.injEq, Prod.mk.injEq] at e
      obtain ⟨rfl, rfl, rfl, rfl, rfl, rfl, rfl, rfl⟩ := e
      exact ⟨_, ⟨oc, od, _, _, _, _, _, _, _, sl, rfl, hq, c2, He.dflB_ok c3, He.kwdB_ok c4⟩, c1⟩
    | _ => exact Bool.noConfusion c
def propB (K : PySem.W.Frag) (p : PrD) : Bool :=
  (decide (PySem.W.findIn K (.ref (He.ga K p.cls)) p.d.name = some (some (.ref (prA K p)))) && decide (PySem.W.specialIn K (.ref (prA K p)) "__get__" = some (some (.builtin "property.__get__")))) &&
  ((decide (PySem.W.takesIn K (.ref (prA K p)) = some true) && (match PySem.W.recIn K (prA K p) "property" with
    | some (.ref _ :: _) => true
    | _ => false)) && bare K (geA K p) p.d.qual)
theorem propB_ok {K : PySem.W.Frag} {p : PrD} (h : propB K p = true) (e : seen K (geA K p) = p.d.val) : PropOf K (He.ga K p.cls) p.d.name (prA K p) (geA K p) ∧ ∃ fd, FunD K p.d.name p.d.qual p.d.params p.d.body p.d.scope [] [] (geA K p) fd := by
  unfold propB at h
  rw [Bool.and_eq_true, Bool.and_eq_true, Bool.and_eq_true, Bool.and_eq_true] at h
  obtain ⟨⟨h1, h2⟩, ⟨h3, h4⟩, h5⟩ := h
  refine ⟨⟨of_decide_eq_true h1, of_decide_eq_true h2, of_decide_eq_true h3, ?_⟩, funA e h5⟩
  unfold geA
  split at h4
  · rename_i g rest hg
    rw [hg]
    exact ⟨rest, rfl⟩
  · exact Bool.noConfusion h4
abbrev AlP : Type := Ga.AlM × (Bool × List He.FnW)
open He in
def frS (g : Addr → Option Obj) (n : Nat) : PySem.W.Frag := frG g (sysModules :: asD g n)
open He in
def obsPK (fa : List Fa) (fn : List DefD) (ps : List PrD) (ex : PySem.W.Frag → Bool) (K : PySem.W.Frag) : AlP := ((obsD fa fn K, ex K), (ps.all (propB K), ps.map fun p => seen K (geA K p)))
open He in
def valP (fn : List DefD) (ps : List PrD) : AlP := ((valD fn, true), (true, ps.map fun p => p.d.val))
open He in
def obsP (n : Nat) (fa : List Fa) (fn : List DefD) (ps : List PrD) (ex : PySem.W.Frag → Bool) (g : Addr → Option Obj) : AlP := obsPK fa fn ps ex (frS g n)
def SaysP (ps : List PrD) (K : PySem.W.Frag) : Prop := ps.all (propB K) = true ∧ (ps.map fun p => seen K (geA K p)) = ps.map fun p => p.d.val
theorem SaysP.at {ps : List PrD} {K : PySem.W.Frag} (c : SaysP ps K) (i : Nat) {p : PrD} (h : ps[i]? = some p := by rfl) : PropOf K (He.ga K p.cls) p.d.name (prA K p) (geA K p) ∧ ∃ fd, FunD K p.d.name p.d.qual p.d.params p.d.body p.d.scope [] [] (geA K p) fd := by
  have m := List.mem_of_getElem? h
  refine propB_ok (List.all_eq_true.mp c.1 p m) ?_
  have e2 := congrArg (fun l : List He.FnW => l[i]?) c.2
  simp only [List.getElem?_map, h, Option.map_some] at e2
  exact Option.some.inj e2
open He in
def hookP (n : Nat) (fa : List Fa) (fn : List DefD) (ps : List PrD) (ex : PySem.W.Frag → Bool) : PySem.W.Hook where
  α := AlP
  obs := fun s => obsP n fa fn ps ex s.heap.get?
  val := fun _ => valP fn ps
  says := fun _ h => ∃ K : PySem.W.Frag, K.In h ∧ SaysD fa fn K ∧ (ex K = true ∧ SaysP ps K)
  of := fun _ _ e => ⟨_, frG_in, congrArg (fun z : AlP => z.1.1) e, congrArg (fun z : AlP => z.1.2) e, congrArg (fun z : AlP => z.2.1) e, congrArg (fun z : AlP => z.2.2) e⟩
  keeps := fun _ _ _ ⟨K, hK, c⟩ k => ⟨K, PySem.W.Frag.In.keeps hK k, c⟩
open He in
theorem obsP_eq {n : Nat} {fa : List Fa} {fn : List DefD} {ps : List PrD} {ex : PySem.W.Frag → Bool} {g : Addr → Option Obj} {s : Shared} (h : ∀ a, g a = s.heap.get? a) : obsP n fa fn ps ex g = (hookP n fa fn ps ex).obs s := by
  obtain rfl : g = s.heap.get? := funext h
  rfl
end Prp

set_option Elab.async false
set_option linter.all false
set_option maxRecDepth 100000
set_option maxHeartbeats 2000000
/-! shifts, and, or of naturals -/
namespace Bw
open PySem PySem.Spec PyProof.Rows L2 Rd Dt
section
variable {X : Cx}
def rShr : R2 := fun x y H Q => ∃ i k : Nat, x = .int i ∧ y = .int k ∧ Q (.int ((i >>> k : Nat) : Int)) H
def rShl : R2 := fun x y H Q => ∃ i k n : Nat, x = .int i ∧ y = .int k ∧ i < 2 ^ n ∧ n + k ≤ 100000 ∧ Q (.int ((i * 2 ^ k : Nat) : Int)) H
def rAnd : R2 := fun x y H Q => ∃ i k : Nat, x = .int i ∧ y = .int k ∧ Q (.int ((i &&& k : Nat) : Int)) H
def rOr : R2 := fun x y H Q => ∃ i k : Nat, x = .int i ∧ y = .int k ∧ Q (.int ((i ||| k : Nat) : Int)) H
theorem op_shr : OpR X (binaryOp .RShift) rShr := by
  rintro pins s σ H x y v u Q I rx ry ⟨i, k, rfl, rfl, q⟩
  refine L2.op_shr pins s σ H _ _ v u Q I rx ry ⟨_, _, rfl, rfl, Int.natCast_nonneg k, ?_⟩
  have e : (i : Int) / 2 ^ (k : Int).toNat = ((i >>> k : Nat) : Int) := by
    rw [Int.toNat_natCast, Nat.shiftRight_eq_div_pow]
    push_cast
    rfl
  rw [← e] at q
  exact q
theorem op_shl : OpR X (binaryOp .LShift) rShl := by
  rintro pins s σ H x y v u Q I rx ry ⟨i, k, n, rfl, rfl, hi, hn, q⟩
  refine op_shlW pins s σ H _ _ v u Q I rx ry ⟨_, _, rfl, rfl, shl_ok (n := n) (by rw [Int.natAbs_natCast]; exact hi) (by omega), ?_⟩
  have e : (i : Int) * 2 ^ (k : Int).toNat = ((i * 2 ^ k : Nat) : Int) := by
    rw [Int.toNat_natCast]
    push_cast
    rfl
  rw [← e] at q
  exact q
theorem op_and : OpR X (binaryOp .BitAnd) rAnd := by
  rintro pins s σ H x y v u Q I rx ry ⟨i, k, rfl, rfl, q⟩
  refine L2.op_and pins s σ H _ _ v u Q I rx ry ⟨_, _, rfl, rfl, ?_⟩
  have e : Builtin.bitAnd (i : Int) (k : Int) = ((i &&& k : Nat) : Int) := by
    rw [bitAnd_pp (Int.natCast_nonneg i) (Int.natCast_nonneg k), Int.toNat_natCast, Int.toNat_natCast]
  rw [← e] at q
  exact q
theorem op_or : OpR X (binaryOp .BitOr) rOr := by
  rintro pins s σ H x y v u Q I rx ry ⟨i, k, rfl, rfl, q⟩
  refine L2.op_or pins s σ H _ _ v u Q I rx ry ⟨_, _, rfl, rfl, ?_⟩
  have e : Builtin.bitOr (i : Int) (k : Int) = ((i ||| k : Nat) : Int) := by
    rw [bitOr_nn (Int.natCast_nonneg i) (Int.natCast_nonneg k), Int.toNat_natCast, Int.toNat_natCast]
  rw [← e] at q
  exact q
/-- while, the test shown for any use of its answer -/
theorem while_b2 {c : TT} {tb : TS} {D : Ends} {σ : L2.St} {H : Hp} (Pv : L2.St → Hp → Prop) (μ : L2.St → Hp → Nat) (h0 : Pv σ H)
    (hs : ∀ σ H, Pv σ H → ∀ Q : Bool → Hp → Prop, (∀ H1, tb { D with nx := fun σ' H' => Pv σ' H' ∧ μ σ' H' < μ σ H, ct := fun σ' H' => Pv σ' H' ∧ μ σ' H' < μ σ H, bk := D.nx } σ H1 → Q true H1) → (∀ H1, D.nx σ H1 → Q false H1) → c σ H Q) : tWhile c tb D σ H := by
  refine ⟨fun m σ H => m = μ σ H ∧ Pv σ H, ⟨_, rfl, h0⟩, ?_⟩
  rintro m σ H ⟨rfl, p⟩
  exact hs σ H p _ (fun H1 q => ⟨_, fun σ' H' ⟨p', l⟩ => ⟨_, l, rfl, p'⟩, q⟩) fun H1 q => q
end
/-! ### sets of bits -/
theorem bits_add {f : Nat → Bool} {B m n : Nat} (h : Ln.Bits f B m) (hn : n < m) : Ln.Bits (fun k => f k || decide (k = n)) (B ||| 1 * 2 ^ n) m := by
  rw [Nat.one_mul]
  refine ⟨Nat.or_lt_two_pow h.lt (Nat.pow_lt_pow_right (by decide) hn), fun k hk => ?_⟩
  rw [Nat.testBit_or, Nat.testBit_two_pow, h.eq k hk]
  congr 1
  exact decide_eq_decide.mpr eq_comm
theorem bits_congr {f g : Nat → Bool} {B m : Nat} (h : Ln.Bits f B m) (e : ∀ n, n < m → f n = g n) : Ln.Bits g B m := ⟨h.lt, fun n hn => by rw [h.eq n hn]; exact e n hn⟩
theorem bits_zero {m : Nat} : Ln.Bits (fun _ => false) 0 m := ⟨Nat.two_pow_pos m, fun n _ => Nat.zero_testBit n⟩
theorem bits_or {f g : Nat → Bool} {B C m : Nat} (h : Ln.Bits f B m) (k : Ln.Bits g C m) : Ln.Bits (fun n => f n || g n) (B ||| C) m := ⟨Nat.or_lt_two_pow h.lt k.lt, fun n hn => by rw [Nat.testBit_or, h.eq n hn, k.eq n hn]⟩
theorem bits_and {f g : Nat → Bool} {B C m : Nat} (h : Ln.Bits f B m) (k : Ln.Bits g C m) : Ln.Bits (fun n => f n && g n) (B &&& C) m := ⟨Nat.lt_of_le_of_lt Nat.and_le_left h.lt, fun n hn => by rw [Nat.testBit_and, h.eq n hn, k.eq n hn]⟩
theorem disj_add : ∀ (m x y : Nat), x < 2 ^ m → x &&& y = 0 → x + y = x ||| y
  | 0, x, y, h, _ => by
    have : x = 0 := by simpa using h
    rw [this, Nat.zero_add, Nat.zero_or]
  | m + 1, x, y, h, e => by
    have hx : x / 2 < 2 ^ m := by rw [Nat.pow_succ] at h; omega
    have e2 : x / 2 &&& y / 2 = 0 := by rw [← Nat.and_div_two, e]
    have ih := disj_add m (x / 2) (y / 2) hx e2
    have d : (x ||| y) / 2 = x / 2 ||| y / 2 := Nat.or_div_two
    have b0 := congrArg (fun z => z.testBit 0) e
    have c0 : (x ||| y).testBit 0 = (x.testBit 0 || y.testBit 0) := Nat.testBit_or ..
    simp only [Nat.testBit_and, Nat.testBit_zero, Nat.zero_testBit] at b0 c0
    have r1 := Nat.mod_two_eq_zero_or_one x
    have r2 := Nat.mod_two_eq_zero_or_one y
    have r3 := Nat.mod_two_eq_zero_or_one (x ||| y)
    have m3 : (x ||| y) % 2 = x % 2 + y % 2 := by
      rcases r1 with r1 | r1 <;> rcases r2 with r2 | r2 <;> rcases r3 with r3 | r3 <;> simp [r1, r2, r3] at b0 c0 ⊢
    have := Nat.div_add_mod (x ||| y) 2
    have := Nat.div_add_mod x 2
    have := Nat.div_add_mod y 2
    omega
/-- bits lacking others: B - (B & C) -/
theorem bits_sub {f g : Nat → Bool} {B C m : Nat} (h : Ln.Bits f B m) (k : Ln.Bits g C m) : Ln.Bits (fun n => f n && !g n) (B - (B &&& C)) m := by
  have hx : B - (B &&& C) = B ^^^ (B &&& C) := by
    have hd : B = (B ^^^ (B &&& C)) + (B &&& C) := by
      have e : (B ^^^ (B &&& C)) &&& (B &&& C) = 0 := by
        refine Nat.eq_of_testBit_eq fun n => ?_
        rw [Nat.testBit_and, Nat.testBit_xor, Nat.testBit_and, Nat.zero_testBit]
        cases B.testBit n <;> cases C.testBit n <;> rfl
      have e2 : (B ^^^ (B &&& C)) ||| (B &&& C) = B := by
        refine Nat.eq_of_testBit_eq fun n => ?_
        rw [Nat.testBit_or, Nat.testBit_xor, Nat.testBit_and]
        cases B.testBit n <;> cases C.testBit n <;> rfl
      have := disj_add B (B ^^^ (B &&& C)) (B &&& C) (Nat.xor_lt_two_pow Nat.lt_two_pow_self (Nat.lt_of_le_of_lt Nat.and_le_left Nat.lt_two_pow_self)) e
      omega
    omega
  rw [hx]
  refine ⟨Nat.xor_lt_two_pow h.lt (Nat.lt_of_le_of_lt Nat.and_le_left h.lt), fun n hn => ?_⟩
  rw [Nat.testBit_xor, Nat.testBit_and, h.eq n hn, k.eq n hn]
  cases f n <;> cases g n <;> rfl
end Bw

set_option Elab.async false
set_option linter.all false
set_option maxRecDepth 100000
set_option maxHeartbeats 2000000
/-! the lowest bit; isinstance of an own class; f-strings -/
namespace Lo
open PySem PySem.Spec PyProof.Rows L2 Rd Dt Dq Pk
theorem low_at {B k : Nat} (h : B.testBit k = true) (l : ∀ j, j < k → B.testBit j = false) : B - (B &&& (B - 1)) = 2 ^ k := by
  have e : B = 2 ^ (k + 1) * (B / 2 ^ (k + 1)) + 2 ^ k := by
    apply Nat.eq_of_testBit_eq
    intro i
    rw [Nat.testBit_two_pow_mul_add _ (by rw [Nat.pow_succ]; have := Nat.two_pow_pos k; omega)]
    by_cases c : i < k + 1
    · rw [if_pos c, Nat.testBit_two_pow]
      by_cases d : k = i
      · rw [← d, h, decide_eq_true rfl]
      · rw [l i (by omega), decide_eq_false d]
    · rw [if_neg c, Nat.testBit_div_two_pow]
      congr 1
      omega
  generalize B / 2 ^ (k + 1) = q at e
  have tp := Nat.two_pow_pos k
  have e1 : B - 1 = 2 ^ (k + 1) * q + (2 ^ k - 1) := by omega
  have e2 : B &&& (B - 1) = 2 ^ (k + 1) * q := by
    rw [e1]
    conv => lhs; lhs; rw [e]
    apply Nat.eq_of_testBit_eq
    intro i
    rw [Nat.testBit_and, Nat.testBit_two_pow_mul_add _ (by rw [Nat.pow_succ]; omega), Nat.testBit_two_pow_mul_add _ (by rw [Nat.pow_succ]; omega), Nat.testBit_two_pow_mul]
    by_cases c : i < k + 1
    · rw [if_pos c, if_pos c, Nat.testBit_two_pow, Nat.testBit_two_pow_sub_one, decide_eq_false (show ¬ i ≥ k + 1 by omega), Bool.false_and]
      by_cases d : k = i
      · rw [decide_eq_false (show ¬ i < k by omega), Bool.and_false]
      · rw [decide_eq_false d, Bool.false_and]
    · rw [if_neg c, if_neg c, Bool.and_self, decide_eq_true (show i ≥ k + 1 by omega), Bool.true_and]
  rw [e2]
  omega
theorem bits_pow (k : Nat) : Builtin.Int.intBits (((2 ^ k : Nat)) : Int) = k + 1 := by
  have tp := Nat.two_pow_pos k
  unfold Builtin.Int.intBits
  rw [if_neg (show ¬ ((((2 ^ k : Nat)) : Int) == 0) = true from fun z => by have := eq_of_beq z; omega), Int.natAbs_natCast, Nat.log2_two_pow]
def rLow : R2 := fun x y H Q => ∃ i : Nat, x = .int i ∧ y = .int (-(i : Int)) ∧ 0 < i ∧ Q (.int ((i - (i &&& (i - 1)) : Nat) : Int)) H
section
variable {X : Cx}
theorem op_low : OpR X (binaryOp .BitAnd) rLow := by
  rintro pins s σ H x y v u Q I rx ry ⟨i, rfl, rfl, hi, q⟩
  refine L2.op_and pins s σ H _ _ v u Q I rx ry ⟨_, _, rfl, rfl, ?_⟩
  have e : Builtin.bitAnd (i : Int) (-(i : Int)) = ((i - (i &&& (i - 1)) : Nat) : Int) := by
    unfold Builtin.bitAnd
    have en : Builtin.bitNot (-(i : Int)) = ((i - 1 : Nat) : Int) := by
      show - -(i : Int) - 1 = _
      omega
    rw [decide_eq_true (show (0 : Int) ≤ i by omega), decide_eq_false (show ¬ (0 : Int) ≤ -(i : Int) by omega), en]
    show (i : Int) - (((i : Int).toNat &&& (((i - 1 : Nat) : Int)).toNat : Nat) : Int) = _
    rw [Int.toNat_natCast, Int.toNat_natCast]
    have := @Nat.and_le_left i (i - 1)
    omega
  rw [← e] at q
  exact q
end
theorem tBits_ {to : TE} {σ : L2.St} {H : Hp} {Q : VK} : tBits to σ H Q = to σ H fun x H1 => ∃ i, x = .int i ∧ Q (.int (Builtin.Int.intBits i : Nat)) H1 := rfl
/-! f-strings -/
theorem tJs_n {acc : Str} {σ : L2.St} {H : Hp} {Q : Str → Hp → Prop} : tJs [] acc σ H Q = Q acc H := rfl
theorem tJs_c {t : TE} {ts : List TE} {acc : Str} {σ : L2.St} {H : Hp} {Q : Str → Hp → Prop} : tJs (t :: ts) acc σ H Q = t σ H fun x H1 => ∃ y : Str, x = .str y ∧ (acc ++ y).length ≤ sizeLine ∧ tJs ts (acc ++ y) σ H1 Q := rfl
theorem tFmt_ {te : TE} {σ : L2.St} {H : Hp} {Q : VK} : tFmt te σ H Q = te σ H fun x H1 => (∃ y : Str, x = .str y ∧ y.length ≤ sizeLine ∧ Q (.str y) H1) ∨ ∃ i : Int, x = .int i ∧ i.natAbs.log2 < 1920 ∧ Q (.str (toString i)) H1 := rfl
/-! ### an instance of an own class -/
structure OwnC (K : PySem.W.Frag) (C : Addr) : Prop where
  cl : Cls K C
  ha : PySem.W.findIn K (.ref C) "__class__" = some (some (.builtin "object.__class__"))
  hn : PySem.W.specialIn K (.builtin "object.__class__") "__get__" = some (some (.builtin "getset_descriptor.__get__"))
  ht : PySem.W.takesIn K (.builtin "object.__class__") = some true
  hm : PySem.W.mroIn K C (.type "object") = some true
def ownB (K : PySem.W.Frag) (x : Str) : Bool :=
  (decide (PySem.W.findIn K (.ref (He.ga K x)) "__class__" = some (some (.builtin "object.__class__"))) && decide (PySem.W.specialIn K (.builtin "object.__class__") "__get__" = some (some (.builtin "getset_descriptor.__get__")))) &&
  (decide (PySem.W.takesIn K (.builtin "object.__class__") = some true) && decide (PySem.W.mroIn K (He.ga K x) (.type "object") = some true))
theorem ownB_ok {K : PySem.W.Frag} {x : Str} (h : ownB K x = true) (c : Cls K (He.ga K x)) : OwnC K (He.ga K x) := by
  unfold ownB at h
  rw [Bool.and_eq_true, Bool.and_eq_true, Bool.and_eq_true] at h
  obtain ⟨⟨h1, h2⟩, h3, h4⟩ := h
  exact ⟨c, of_decide_eq_true h1, of_decide_eq_true h2, of_decide_eq_true h3, of_decide_eq_true h4⟩
def rOwn (C : Addr) : List V → Hp → VK → Prop := fun vs H Q => ∃ a dx fs, vs = [.ref a, .ref C] ∧ H a = some (.ins C dx fs) ∧ Q (.bl true) H
theorem rOwn_ {C : Addr} {vs : List V} {H : Hp} {Q : VK} : rOwn C vs H Q = ∃ a dx fs, vs = [.ref a, .ref C] ∧ H a = some (.ins C dx fs) ∧ Q (.bl true) H := rfl
theorem call_own {X : Cx} {K : PySem.W.Frag} {C : Addr} (hK : X.K = K) (O : OwnC K C) : CallR X (.builtin "isinstance") (rOwn C) := by
  subst hK
  intro pins s σ H vs us Q I r h
  obtain ⟨a, dx, fs, rfl, ha, q⟩ := h
  cases r with
  | cons r1 rr =>
    cases rr with
    | cons r2 rr =>
      cases rr
      cases r2
      exact isinst_ok (b := true) I r1 (.ins ha O.cl O.ha O.hn O.ht O.hm) (by unfold PySem.W.kitOne; rw [if_pos (by exact beq_self_eq_true _)]) fun tk => ⟨.bl true, H, I.tok tk, rfl, q⟩
theorem gFld_ {K : PySem.W.Frag} {ta : TE} {f : Str} {v : V} {σ : L2.St} {H : Hp} {Q : L2.St → Hp → Prop} : Lc.gFld K ta f v σ H Q = ta σ H fun x H1 => ∃ a C dx fs, x = .ref a ∧ Ob.SA K H1 a f C dx fs ∧ Q σ (upd H1 a (.ins C dx (putF f v fs))) := rfl
/-! making an instance -/
theorem tMake_ {C : Addr} {sp : Sp} {dvs : List V} {E : XK} {t : TA} {σ : L2.St} {H : Hp} {Q : VK} : tMake C sp dvs E t σ H Q = t σ H fun vs H1 => ∀ x dx, H1 x = none → H1 dx = none → dx ≠ x →
  sp (.ref x :: (vs ++ dvs)) (upd (upd H1 dx (.own x)) x (.ins C dx [])) (fun v H2 => v = .non ∧ Q (.ref x) H2) E := rfl
end Lo

set_option Elab.async false
set_option linter.all false
set_option maxRecDepth 100000
set_option maxHeartbeats 2000000
/-! == and != and in of an own class, with any answer -/
namespace Oc
open PySem PySem.Spec PyProof.Rows L2 Rd Dt Dq Pk
/-- a call of a def somewhere below the running body -/
theorem call_sub {X : Cx} {CX : CXT} {n : Nat} {A : Around} {f : Addr} {fd : FuncData} {ps : List Str} {sp : Sp} {E : XK} {pins : List (Addr × Obj)} {σ : L2.St} {H : Hp} {s : Shared} {vs : List V} {us : List Value} {Q : VK}
    (sb : L2.Sub X n A) (F : FnOk X.prog X.w X.K X.mg X.base CX n f fd ps sp) (hb : Binds X.K fd ps []) (hx : Passes CX X E) (I : Inv X pins σ H s) (rv : Vals vs us) (hsp : sp vs H Q E) :
    wpAny (model X.prog X.w) A (call (.ref f) us) (EP X pins σ Q) X.xe s := by
  have e0 : Env0 X.prog X.w X.K X.mg X.base A X.stack s H := by
    have e := I.env0
    exact ⟨by rw [sb.fr]; exact e.frames, e.mod, e.bs, e.bsz, e.funs, e.frf, e.hok, e.bare⟩
  have hl := F.len _ _ _ _ hsp
  have hlu : us.length = ps.length := rv.length.symm.trans hl
  have hbt := hb s us I.kIn (by rw [List.append_nil]; exact hlu)
  rw [List.append_nil] at hbt
  refine wpAny_call (codeAny_mono (F.run A X.stack s H ⟨us, []⟩ us vs Q E sb.room e0 hbt rv hsp) fun r s' hq => ?_)
  cases r with
  | error e => exact hx pins σ H s e s' I hq
  | ok fl =>
    cases fl with
    | ret w => exact I.after hq
    | next => exact False.elim hq
    | brk => exact False.elim hq
    | cont => exact False.elim hq
/-- the other side: an instance of the class, or a text -/
inductive Oth (K : PySem.W.Frag) (C : Addr) (H : Hp) : V → Prop
  | ins {b dy : Addr} {gs : List (Str × V)} : H b = some (.ins C dy gs) → Oth K C H (.ref b)
  | str (x : Str) : PySem.W.notFirst K C (.type "str") = true → Oth K C H (.str x)
  | int (i : Int) : PySem.W.notFirst K C (.type "int") = true → Oth K C H (.int i)
  | tup {b : Addr} {xs : List V} : PySem.W.notFirst K C (.type "tuple") = true → SqT K H b xs → Oth K C H (.ref b)
theorem Oth.looks {X : Cx} {C : Addr} {pins : List (Addr × Obj)} {σ : L2.St} {H : Hp} {s : Shared} {y : V} {u : Value} (I : Inv X pins σ H s) (o : Oth X.K C H y) (ry : RelV y u) : ∃ tb, PySem.W.Looks (model X.prog X.w) s.heap (typeOf u) tb ∧ PySem.W.notFirst X.K C tb = true := by
  cases o with
  | ins hb =>
    cases ry
    obtain ⟨m, J, _⟩ := ins_get I.hok hb
    obtain ⟨od, J, _⟩ := J.look
    exact ⟨_, J.type, by simp [PySem.W.notFirst]⟩
  | str x h =>
    obtain ⟨t, rfl⟩ := ry
    exact ⟨_, PySem.W.Looks.of_pure rfl, h⟩
  | int x h =>
    obtain ⟨t, rfl⟩ := ry
    exact ⟨_, PySem.W.Looks.of_pure rfl, h⟩
  | tup h hb =>
    cases ry
    obtain ⟨its, _, ⟨o, ho, hc, _⟩, _⟩ := I.tuple hb
    refine ⟨_, ?_, h⟩
    rw [← hc]
    exact (PySem.W.Looks.ld ho).andThen .now
structure EqK (K : PySem.W.Frag) (C f : Addr) : Prop where
  s : PySem.W.findIn K (.ref C) "__eq__" = some (some (.ref f))
  i : PySem.W.isFn K (.ref f) = true
/-- what an own __eq__ answers, used as == and as != -/
def rEqO (K : PySem.W.Frag) (C : Addr) (sp : Sp) : R2 := fun x y H Q => ∃ a dx fs, x = .ref a ∧ H a = some (.ins C dx fs) ∧ Oth K C H y ∧ sp [x, y] H (fun v H' => ∃ b, v = .bl b ∧ Q (.bl b) H') (fun _ _ _ => False)
def rNeO (K : PySem.W.Frag) (C : Addr) (sp : Sp) : R2 := fun x y H Q => ∃ a dx fs, x = .ref a ∧ H a = some (.ins C dx fs) ∧ Oth K C H y ∧ sp [x, y] H (fun v H' => ∃ b, v = .bl b ∧ Q (.bl (!b)) H') (fun _ _ _ => False)
section
variable {X : Cx} {CX : CXT} {n : Nat} {C f : Addr} {fd : FuncData} {ps : List Str} {sp : Sp}
theorem op_eqO {K : PySem.W.Frag} (hK : X.K = K) (hr : Room n X.A) (e : EqK K C f) (F : FnOk X.prog X.w X.K X.mg X.base CX n f fd ps sp) (hb : Binds X.K fd ps []) (hx : Passes CX X (fun _ _ _ => False)) : OpR X (compareOp .Eq) (rEqO K C sp) := by
  subst hK
  intro pins s σ H x y v u Q I rx ry h
  obtain ⟨a, dx, fs, rfl, ha, ho, hsp⟩ := h
  cases rx
  obtain ⟨mA, J, _⟩ := ins_get I.hok ha
  obtain ⟨od, J, _⟩ := J.look
  obtain ⟨tb, lb, nb⟩ := ho.looks I ry
  obtain ⟨m, hF⟩ := I.fr
  show wpAny _ _ (richCompare .Eq (.ref a) u) _ _ _
  refine PySem.W.cmp_K (op := .Eq) hr.units0 hF I.ok.mod.kin J lb nb e.s e.i ?_
  refine wpAny_mono (call_sub ⟨hr, rfl⟩ F hb hx I (.cons (show RelV (.ref a) (.ref a) from rfl) (.cons ry .nil)) hsp) (fun r s' z => ?_) fun _ _ z => z
  obtain ⟨w, H', I', rw', b, rfl, q⟩ := z
  cases (show r = .bool b from rw')
  exact ⟨.bl b, H', I', rfl, q⟩
/-! the != that comes of it -/
theorem ifBoundB {prog : Program} {w : World} {A : Around} {E : Value → Shared → Prop} {s : Shared} {K : PySem.W.Frag} {x C : Addr} {ox : Obj} {od : Option Obj} {name : Str} {id : String} {args : List Value} {Q : Option Value → Shared → Prop} (Z : K.In s.heap) (I : PySem.W.InstAt s.heap x ox C od) (hs : PySem.W.findIn K (.ref C) name = some (some (.builtin id)))
    (hb : ∀ self, bindSpecial (.builtin id) self = pure (.builtin id, [self])) (h : wpAny (model prog w) A (call (.builtin id) (.ref x :: args)) (fun v => Q (some v)) E s) : wpAny (model prog w) A (callSpecialIfBound? (.ref x) name args) Q E s := by
  simp only [callSpecialIfBound?, bindSpecialIfBound?]
  refine wpAny_holding (wpAny_bind (wpAny_bind (wpAny_bind (I.type.here ((PySem.W.looks_findIn Z hs).here ?_)))))
  simp only [hb]
  refine wpAny_bind (wpAny_askSetting (wpAny_ite ?_))
  have goal : wpAny (model prog w) A (call (.builtin id) ([.ref x] ++ args) >>= fun v => pure (some v)) Q E s := wpAny_bind (wpAny_mono h (fun v s' z => wpAny_pure z) fun _ _ z => z)
  split
  · exact wpAny_bind (wpAny_pure (wpAny_pure (by exact goal)))
  · exact wpAny_tryCatch (wpAny_bind (wpAny_pure (wpAny_pure (by exact goal))))
structure NeK (K : PySem.W.Frag) (C f : Addr) : Prop extends EqK K C f where
  ne : PySem.W.findIn K (.ref C) "__ne__" = some (some (.builtin "object.__ne__"))
  ob : PySem.W.mroIn K C (.type "object") = some true
theorem op_neO {K : PySem.W.Frag} (hK : X.K = K) (hr : Room (n + 1) X.A) (e : NeK K C f) (F : FnOk X.prog X.w X.K X.mg X.base CX n f fd ps sp) (hb : Binds X.K fd ps []) (hx : Passes CX X (fun _ _ _ => False)) : OpR X (compareOp .NotEq) (rNeO K C sp) := by
  subst hK
  intro pins s σ H x y v u Q I rx ry h
  obtain ⟨a, dx, fs, rfl, ha, ho, hsp⟩ := h
  cases rx
  obtain ⟨mA, J, _⟩ := ins_get I.hok ha
  obtain ⟨od, J, _⟩ := J.look
  obtain ⟨tb, lb, nb⟩ := ho.looks I ry
  have one : wpAny (model X.prog X.w) X.A (tryCompare (.ref a) "__ne__" u) (fun r s' => ∃ v, r = some v ∧ EP X pins σ Q v s') X.xe s := by
    unfold tryCompare
    refine wpAny_bind (ifBoundB I.kIn J e.ne PySem.F.cmp_object.ne.bind ?_)
    refine wpAny_call (codeAny_call_builtin PySem.F.cmp_object.ne.plain PySem.F.cmpEntry_ne (PySem.W.check_slot PySem.F.cmpKind_ne PySem.F.cmpSplit_ne (J.type.andThen (PySem.W.looks_mroIn I.kIn e.ob)) (PySem.F.cmpArgs_ne _ _) ?_))
    unfold Builtin.«object.__ne__»
    refine wpAny_bind (m := slotArgs "__ne__" 1 _) (wpAny_pure ?_)
    refine wpAny_bind (m := cRoomFor _ _) (wpAny_cRoomFor hr.in1.units0 ?_)
    refine wpAny_bind (m := callSpecialIfBound? (.ref a) (Str.ofString "__eq__") _) (PySem.W.ifBound_K I.kIn J e.s e.i (wpAny_mono (call_sub ⟨hr.in1, rfl⟩ F hb hx I (.cons (show RelV (.ref a) (.ref a) from rfl) (.cons ry .nil)) hsp) (fun r s' z => ?_) fun _ _ z => z))
    obtain ⟨w, H', I', rw', b, rfl, q⟩ := z
    cases (show r = .bool b from rw')
    refine wpAny_bind (m := truthy (.bool b)) (wpAny_truthy_bool (wpAny_pure ?_))
    exact wpAny_pure ⟨.bool (!b), rfl, .bl (!b), H', I', rfl, q⟩
  show wpAny _ _ (richCompare .NotEq (.ref a) u) _ _ _
  unfold richCompare
  simp only [oneThing_ref]
  refine wpAny_holding ?_
  refine wpAny_bind (wpAny_cRoomFor hr.units0 ?_)
  rw [cmpInfo_NotEq]
  dsimp only
  refine wpAny_bind (J.type.here ?_)
  refine wpAny_bind (lb.here ?_)
  split
  · rename_i hne
    have sf : PySem.W.subIn X.K tb (.ref C) = some false := by
      unfold PySem.W.notFirst at nb
      rcases Bool.or_eq_true_iff.mp nb with z | z
      · rw [bne_iff_ne] at hne
        exact absurd (beq_iff_eq.mp z).symm hne
      · exact beq_iff_eq.mp z
    refine wpAny_bind ((PySem.W.looks_subIn I.kIn sf).here ?_)
    rw [if_neg (by decide)]
    refine wpAny_bind (wpAny_mono one (fun r s' z => ?_) fun _ _ z => z)
    obtain ⟨z, rfl, hz⟩ := z
    exact wpAny_pure hz
  · refine wpAny_bind (wpAny_pure ?_)
    rw [if_neg (by decide)]
    refine wpAny_bind (wpAny_mono one (fun r s' z => ?_) fun _ _ z => z)
    obtain ⟨z, rfl, hz⟩ := z
    exact wpAny_pure hz
end
/-! in -/
def rInO (K : PySem.W.Frag) (C : Addr) (sp : Sp) : R2 := fun x y H Q => ∃ a dx fs, y = .ref a ∧ H a = some (.ins C dx fs) ∧ sp [y, x] H (fun v H' => ∃ b, v = .bl b ∧ Q (.bl b) H') (fun _ _ _ => False)
theorem op_inO {X : Cx} {CX : CXT} {n : Nat} {C f : Addr} {fd : FuncData} {ps : List Str} {sp : Sp} {K : PySem.W.Frag} (hK : X.K = K) (hr : Room n X.A) (hs : PySem.W.findIn K (.ref C) "__contains__" = some (some (.ref f))) (hi : PySem.W.isFn K (.ref f) = true) (F : FnOk X.prog X.w X.K X.mg X.base CX n f fd ps sp) (hb : Binds X.K fd ps []) (hx : Passes CX X (fun _ _ _ => False)) : OpR X (compareOp .In) (rInO K C sp) := by
  subst hK
  intro pins s σ H x y v u Q I rx ry h
  obtain ⟨a, dx, fs, rfl, ha, hsp⟩ := h
  cases ry
  obtain ⟨mA, J, _⟩ := ins_get I.hok ha
  obtain ⟨od, J, _⟩ := J.look
  show wpAny _ _ (contains (.ref a) v >>= fun b => pure (Value.bool b)) _ _ _
  refine wpAny_bind ?_
  unfold contains
  refine wpAny_holding ?_
  rw [stdlibNamesSay?_ref]
  refine wpAny_bind (m := specialOf (.ref a) (Str.ofString "__contains__")) (wpAny_bind (J.type.here ((PySem.W.looks_findIn I.kIn hs).here ?_)))
  dsimp only
  rw [if_neg (show ¬ ((some (Value.ref f) == some Value.none) = true) from fun z => by have := eq_of_beq z; injection this with this; cases this)]
  refine wpAny_bind ?_
  unfold callSpecialUnlessNone?
  refine wpAny_bind (m := specialOf (.ref a) (Str.ofString "__contains__")) (wpAny_bind (J.type.here ((PySem.W.looks_findIn I.kIn hs).here ?_)))
  refine wpAny_holding (wpAny_bind ((PySem.W.bind_fn I.kIn _ (beq_iff_eq.mp hi)).here ?_))
  dsimp only
  rw [if_neg (show ¬ ((Value.ref f == Value.none) = true) from fun z => by have := eq_of_beq z; cases this)]
  refine wpAny_bind (wpAny_mono (call_sub ⟨hr, rfl⟩ F hb hx I (.cons (show RelV (.ref a) (.ref a) from rfl) (.cons rx .nil)) hsp) (fun r s' z => ?_) fun _ _ z => z)
  obtain ⟨w, H', I', rw', b, rfl, q⟩ := z
  cases (show r = .bool b from rw')
  refine wpAny_pure ?_
  exact wpAny_truthy_bool (wpAny_pure ⟨.bl b, H', I', rfl, q⟩)
end Oc

set_option Elab.async false
set_option linter.all false
set_option maxRecDepth 100000
set_option maxHeartbeats 2000000
/-! xs[::-1] of a list; an instance made by keywords alone -/
namespace Rv
open PySem PySem.Spec PyProof.Rows L2 Rd Dt Dq Pk
def tRevL (K : PySem.W.Frag) (te tk : TE) : TE := fun σ H Q => te σ H fun x H1 => tk σ H1 fun y H2 => y = .int (-1) ∧ ∃ a xs, x = .ref a ∧ SqL K H2 a xs ∧ ∀ p, H2 p = none → Q (.ref p) (upd H2 p (.lst xs.reverse))
theorem tRevL_ {K : PySem.W.Frag} {te tk : TE} {σ : L2.St} {H : Hp} {Q : VK} : tRevL K te tk σ H Q = te σ H fun x H1 => tk σ H1 fun y H2 => y = .int (-1) ∧ ∃ a xs, x = .ref a ∧ SqL K H2 a xs ∧ ∀ p, H2 p = none → Q (.ref p) (upd H2 p (.lst xs.reverse)) := rfl
theorem vals_rev : ∀ {vs : List V} {us : List Value}, Vals vs us → Vals vs.reverse us.reverse
  | [], _, .nil => .nil
  | v :: vs, _, .cons h r => by
    rw [List.reverse_cons, List.reverse_cons]
    exact (vals_rev r).append (.cons h .nil)
theorem pe_rev {X : Cx} {K : PySem.W.Frag} {e k : Expr} {te tk : TE} {p2 pos : Pos} (hK : X.K = K) (he : PE X e te) (hk : PE X k tk) : PE X (.Subscript e (.Slice none none (some k) p2) pos) (tRevL K te tk) := by
  subst hK
  refine ⟨fun pins s σ H Q I h => ?_⟩
  refine Subscript_ (thn (he.run pins s σ H _ I h) fun v s1 ⟨x, H1, I1, r1, q1⟩ => ?_)
  refine wpAny_Slice ?_
  rw [evalPart_none]
  refine wpAny_pure ?_
  refine wpAny_pure ?_
  rw [evalPart_some]
  refine thn (hk.run pins s1 σ H1 _ I1 q1) fun vk s3 ⟨y, H3, I3, r3, q3⟩ => ?_
  obtain ⟨rfl, a, xs, rfl, hx, q⟩ := q3
  obtain ⟨tk', rfl⟩ := r3
  cases r1
  have I4 : Inv X pins σ H3 { s3 with heap := s3.heap.push { cls := .type "slice", data := .fields #[.none, .none, .int (-1) tk'] } } := I3.kept (t' := s3.toks) fun b ob z => Heap.get?_push_of_some _ z
  obtain ⟨its, r, ht, hz⟩ := I4.list hx
  have hlen := r.length
  show wpAny (model X.prog X.w) X.A (subscriptTail e (.Slice none none (some k) p2) (.ref a) (.ref s3.heap.objs.size)) (EP X pins σ Q) X.xe { s3 with heap := s3.heap.push { cls := .type "slice", data := .fields #[.none, .none, .int (-1) tk'] } }
  refine tail_any (ops := [.ref a, .ref s3.heap.objs.size]) ht.isList.typeIs slot_list_getitem.lookup ?_ (by with_unfolding_all rfl)
  refine wpAny_getItem_list_slice ht.isList (Heap.IsSliceOf.new ..) .none .none (.int (-1) tk') (by decide) ?_ (by rw [List.size_toArray]; omega)
  rw [PySem.W.krv_pick]
  refine ⟨.ref _, _, I4.laid (t' := s3.toks) (o := .lst xs.reverse) (fun b ob z => Heap.get?_push_of_some _ z) (Nat.le_refl _) ?_, rfl, q _ (I4.hok.fresh (Nat.le_refl _))⟩
  exact ⟨by rw [List.length_reverse]; exact hz, _, 0, vals_rev r, Heap.get?_push_size _ rfl⟩
/-- C(k = v, ..) -/
def tMakeKw (C : Addr) (m : Nat) (sp : Sp) (gV : List V → List V) (E : XK) (tk : TA) : TE := fun σ H Q => tk σ H fun zs H2 => zs.length = m ∧ ∀ x dx, H2 x = none → H2 dx = none → dx ≠ x → sp (.ref x :: gV zs) (upd (upd H2 dx (.own x)) x (.ins C dx [])) (fun v H3 => v = .non ∧ Q (.ref x) H3) E
theorem tMakeKw_ {C : Addr} {m : Nat} {sp : Sp} {gV : List V → List V} {E : XK} {tk : TA} {σ : L2.St} {H : Hp} {Q : VK} : tMakeKw C m sp gV E tk σ H Q = tk σ H fun zs H2 => zs.length = m ∧ ∀ x dx, H2 x = none → H2 dx = none → dx ≠ x → sp (.ref x :: gV zs) (upd (upd H2 dx (.own x)) x (.ins C dx [])) (fun v H3 => v = .non ∧ Q (.ref x) H3) E := rfl
section
variable {X : Cx} {CX : CXT} {k : Nat} {f C : Addr} {fd : FuncData} {ps ks : List Str} {sp : Sp} {E : XK} {x : Str} {p pos : Pos} {kws : List Keyword} {tk : TA} {g : List Value → List Value} {gV : List V → List V}
theorem pe_makeKw (M : Mk X.K C f) (F : FnOk X.prog X.w X.K X.mg X.base CX k f fd ps sp) (hr : Room (k + 1) X.A) (hg : Gl X x) (hm : X.mg x = some (.ref C)) (hb : KBn X.K fd ps 1 ks (fun us ws => us ++ g ws) (fun vs zs => vs ++ gV zs)) (hx : Passes CX X E) (hkw : PK X kws tk)
    (hall : (backToKw pos (keywordEach kws X.env)).all (·.1.isSome) = true := by rfl) (hks : (backToKw pos (keywordEach kws X.env)).filterMap (·.1) = ks := by rfl)
    (hdb : (x == ("__debug__" : Str)) = false := by decide)
    (hpl : ((backTo pos (starEach [] X.env)).any (·.1) || (backToKw pos (keywordEach kws X.env)).any (·.1.isNone)) = false := by rfl) :
    PE X (.Call (.Name x p) [] kws pos) (tMakeKw C ks.length sp gV E tk) := by
  constructor
  intro pins s σ H Q I h
  refine wpAny_Call_Name_kw (ld_glob I hg hm ?_ hdb)
  refine PySem.W.callWith_KW0 (h₀ := X.base) I.ok.mod.kin M.kp hall ?_ hpl
  refine thn (hkw.run pos pins s σ H _ I h) ?_
  rintro ws s2 ⟨zs, H2, I2, rz, l2, q2⟩
  refine ⟨I2.kIn, ?_⟩
  rw [hks]
  exact run_makeN (n := 0) (us := []) (vs := []) M F hr hb hx I2 .nil rz rfl l2 q2
end
/-- the keywords' names as given -/
theorem kbn1 {K : PySem.W.Frag} {x qual : Str} {params : Arguments} {body : List Stmt} {scope : Scope} {f : Addr} {fd : FuncData} {ps : List Str} (F : FunD K x qual params body scope [] [] f fd) (ks : List Str)
    (h : ∀ (kV doc pm : Value) (an : Option Addr) (cdv ct : Value) (u : Value) (ws : List Value), ws.length = ks.length → bindArgs (PySem.W.fnOf x qual params body scope .none kV doc pm an cdv ct) ⟨[u], ks.zip ws⟩ = pure (ps.zip (u :: ws))) :
    KBn K fd ps 1 ks (fun us ws => us ++ ws) (fun vs zs => vs ++ zs) := by
  obtain ⟨oc, od, dV, kV, doc, pm, an, cdv, ct, sl, e, lk, hcd, hD, hK⟩ := F.ex
  rcases hD with ⟨_, e2⟩ | ⟨z, _⟩
  · subst e2 e
    refine ⟨fun s us ws Z l1 l2 => ?_, fun r r' => r.append r'⟩
    obtain ⟨u, rfl⟩ : ∃ u, us = [u] := by
      match us, l1 with
      | [u], _ => exact ⟨u, rfl⟩
    exact .of_eq (h kV doc pm an cdv ct u ws l2)
  · exact absurd rfl z
end Rv

set_option Elab.async false
set_option linter.all false
set_option maxRecDepth 100000
set_option maxHeartbeats 2000000
/-! enumerate(tuple); dict(tuple of pairs) -/
namespace En
open PySem PySem.Spec PyProof.Rows L2 Rd Dt Dq Pk
/-- the tuple at a, each item in a new pair -/
def ItU (K : PySem.W.Frag) (a : Addr) : It :=
  ⟨fun i H => ∃ (xs : List V) (x : V), SqT K H a xs ∧ xs[i]? = some x, fun i H v H' => ∃ N x, v = .ref N ∧ H N = none ∧ H' = upd H N (.tup [.int (i : Nat), x]) ∧ ∀ xs, SqT K H a xs → xs[i]? = some x, fun i H => ∃ xs : List V, SqT K H a xs ∧ xs.length = i⟩
theorem turn_tupEnum {P : Program} {w : World} {K : PySem.W.Frag} {elts : List Expr} {kk : Nat} {tpos : Pos} (a e it : Addr) :
    Turn P w K (.Tuple elts kk tpos) (ItU K a) [e, it] e (fun i h => (∃ old, IsEnum h e it ((i : Nat) : Int) old) ∧ h.IsTupleIter it a i ∧ e ≠ it ∧ a ≠ it ∧ e ≠ a) where
  mem := by simp
  obj := fun i h st b hb => by
    obtain ⟨⟨old, h1⟩, ⟨o, g1, g2, g3⟩, _⟩ := st
    rcases (show b = e ∨ b = it by simpa using hb) with z | z
    · subst z; exact ⟨_, h1, fun v q => nomatch q⟩
    · subst z; exact ⟨o, g1, fun v q => by rw [g3] at q; cases q⟩
  keep := fun i h h' st k => by
    obtain ⟨⟨old, h1⟩, h2, h3⟩ := st
    exact ⟨⟨old, k e (by simp) _ h1⟩, h2.at fun o q => k it (by simp) o q, h3⟩
  item := by
    intro X hP hw hK hc i pins s σ H E I hf st hg
    subst hP hw hK
    obtain ⟨⟨old, h1⟩, h2, n1, n2, n3⟩ := st
    obtain ⟨xs, x, hq, hx⟩ := hg
    obtain ⟨us, rv, tp, hz⟩ := I.tuple hq
    obtain ⟨u, hu, ru⟩ := rv.get hx
    have lt1 : e < s.heap.objs.size := Heap.lt_size h1
    have lt2 : it < s.heap.objs.size := by
      obtain ⟨_, q, _⟩ := h2
      exact Heap.lt_size q
    have li : i < us.toArray.size := by
      have := (List.getElem?_eq_some_iff.mp hu).1
      simpa using this
    have D := Draws.tuple (prog := X.prog) (w := X.w) (A := X.A.in1) (show X.A.in1.handled = none from I.ok.hd hc) it a n2 us.toArray
    refine wpAny_pyNext_enum_itemD D h1 ⟨h2, tp⟩ li n1 (by simp [n1, n3]) fun y h' tk py ho hit' hT hsz hk => ?_
    obtain rfl : y = u := by
      have e1 : us.toArray[i]? = some y := py
      rw [List.getElem?_toArray, hu] at e1
      exact (Option.some.inj e1).symm
    refine ⟨_, rfl, wpAny_letOwnedTupleGo_enum (s := { s with heap := h', toks := tk + 1 }) ho fun h2' he' sb => ?_⟩
    have gT : h2'.get? s.heap.objs.size = some { cls := .type "tuple", data := .seq #[.int i tk, y] } := (sb.2 _ (Nat.ne_of_gt lt1)).trans hT
    have fresh := I.hok.fresh (Nat.le_refl s.heap.objs.size)
    have okn : ObjOk X.prog X.w (upd H s.heap.objs.size (.tup [.int (i : Nat), x])) h2' s.heap.objs.size (.tup [.int (i : Nat), x]) := ⟨(show 2 ≤ sizeLine by rw [sizeLine_eq]; decide), [.int i tk, y], .cons ⟨_, rfl⟩ (.cons ru .nil), ⟨_, gT, rfl, _, rfl⟩⟩
    have J : Inv X pins σ (upd H s.heap.objs.size (.tup [.int (i : Nat), x])) { s with heap := h2', toks := tk + 1 } :=
      I.turnedNew (t' := tk + 1) (ch := [e, it]) (fun b ob hb q => (sb.2 b (fun z => hb (by rw [z]; simp))).trans (hk b ob (fun z => hb (by rw [z]; simp)) (fun z => hb (by rw [z]; simp)) q)) hf (Nat.le_refl _) okn
    refine ⟨.ref s.heap.objs.size, _, J, rfl, ⟨_, x, rfl, fresh, rfl, fun ys hy => by rw [I.tuple_inj hy hq]; exact hx⟩, ⟨⟨y, by rw [show ((i + 1 : Nat) : Int) = (i : Int) + 1 by omega]; exact he'⟩, hit'.1.at fun o q => (sb.2 it (Ne.symm n1)).trans q, n1, n2, n3⟩, fun b hb => ?_⟩
    have lb : b < s.heap.objs.size := by
      rcases (show b = e ∨ b = it by simpa using hb) with z | z
      · rw [z]; exact lt1
      · rw [z]; exact lt2
    rw [upd_ne (Nat.ne_of_lt lb)]
    exact (hf b hb).1
  done := by
    intro X hP hw hK hc i pins s σ H E I hf st hg
    subst hP hw hK
    obtain ⟨⟨old, h1⟩, h2, n1, n2, n3⟩ := st
    obtain ⟨xs, hq, hx⟩ := hg
    obtain ⟨us, rv, tp, hz⟩ := I.tuple hq
    obtain ⟨f0, f1, f2, f3, f4, f5⟩ := hf it (by simp)
    have hl := rv.length
    have sz : us.toArray.size = i := by rw [List.size_toArray, ← hl, hx]
    have D := Draws.tuple (prog := X.prog) (w := X.w) (A := X.A.in1) (show X.A.in1.handled = none from I.ok.hd hc) it a n2 us.toArray
    refine wpAny_pyNext_enum_endD D h1 (by rw [sz]; exact ⟨h2, tp⟩) fun h' eb => ⟨rfl, I.turned (t' := s.toks) (fun b o hb q => eb b o hb q) f0 f1 f3 f4 f5⟩
  self := fun A i s Q E st h => by
    obtain ⟨⟨_, h1⟩, _⟩ := st
    exact wpAny_pyIter_enum h1 h
def iEnumT (K : PySem.W.Frag) (ta : TA) : TI := fun σ H R => ta σ H fun vs H1 => ∃ a xs, vs = [.ref a] ∧ SqT K H1 a xs ∧ R (ItU K a) H1
set_option maxHeartbeats 1000000 in
/-- enumerate(v) makes two objects -/
theorem made_enum {v : Value} {ob : Obj} {Hs : Heap → Prop} (B : Begins v ob Hs) :
    Meets (Builtin.«enumerate.__new__» ⟨[.type "enumerate", v], []⟩) (fun _ R s => Hs s.heap ∧
      R (.ok (.ret (.ref (s.heap.push ob).objs.size))) { s with heap := (s.heap.push ob).push { cls := .type "enumerate", data := .fields #[.none, .bool false, .ref s.heap.objs.size, rawInt 0, .none, .none] } }) :=
  .of_wp fun prog w A R s hy => by
    obtain ⟨hp, g, d, tk, os⟩ := s
    obtain ⟨y1, y2⟩ := hy
    have z0 := sub_enumerate
    have it1 : ∀ {A' : Around} {E : Value → Shared → Prop} {Q : Value → Shared → Prop}, Q (.ref hp.objs.size) ⟨hp.push ob, g, d, tk, os⟩ → wpAny (model prog w) A' (pyIter v) Q E ⟨hp, g, d, tk, os⟩ := fun q => B.iter _ _ _ _ ⟨hp, g, d, tk, os⟩ _ y1 q
    wp_walk using it1
    refine wpAny_stack_any fun st => wpAny_pure ?_
    split
    · rename_i c _ _ _ _ _
      cases (c == Value.type "enumerate") <;> (wp_walk using it1; exact ⟨_, rfl, y2⟩)
    · wp_walk using it1
      exact ⟨_, rfl, y2⟩
theorem call_enum {prog : Program} {w : World} {A : Around} {E : Value → Shared → Prop} {s : Shared} {v : Value} {ob : Obj} {Hs : Heap → Prop} {Q : Value → Shared → Prop} (B : Begins v ob Hs) (h1 : Hs s.heap)
    (k : ∀ h', IsEnum h' (s.heap.objs.size + 1) s.heap.objs.size 0 .none → h'.get? s.heap.objs.size = some ob → (∀ b o, s.heap.get? b = some o → h'.get? b = some o) → Q (.ref (s.heap.objs.size + 1)) { s with heap := h' }) :
    wpAny (model prog w) A (call (.type "enumerate") [v]) Q E s := by
  refine callType_new F.called_enumerate (by decide) (F.typeCall_enumerate_1 _) (F.newCall_enumerate_1 _) (fun obj => F.args_object_init_2 obj _) F.entry_enumerate_new (made_enum B) ⟨h1, ?_⟩
  have sz : (s.heap.push ob).objs.size = s.heap.objs.size + 1 := Heap.size_push ..
  have he := Heap.get?_push_size (s.heap.push ob) (o := { cls := .type "enumerate", data := .fields #[.none, .bool false, .ref s.heap.objs.size, rawInt 0, .none, .none] }) rfl
  rw [sz] at he
  show _ ∧ _
  rw [sz]
  exact ⟨⟨_, he, rfl⟩, k _ he (Heap.get?_push_of_some _ (Heap.get?_push_size _ B.free)) fun b o x => Heap.get?_push_of_some _ (Heap.get?_push_of_some _ x)⟩
theorem pi_enumT {X : Cx} {K : PySem.W.Frag} {e : Expr} {ta : TA} {p pos tpos : Pos} {elts : List Expr} {kk : Nat} (hK : X.K = K) (hg : Gl X "enumerate") (hm : X.mg "enumerate" = none) (ha : PA X [e] ta) (hs : starEach [e] X.env = [(false, eval e X.env)] := by rfl) :
    PI X (.Tuple elts kk tpos) (.Call (.Name "enumerate" p) [e] [] pos) (iEnumT K ta) := by
  subst hK
  refine ⟨fun pins s σ H R I h => ?_⟩
  refine Call_ (ld_blt I hg hm boot_enumerate (PyProof.Rows.callWith_type1 (thn (ha.run pos pins s σ H _ I h) fun us s1 ⟨vs, H1, I1, r1, q1⟩ => ?_) hs rfl))
  obtain ⟨a, xs, rfl, hq, q⟩ := q1
  cases r1 with
  | cons r rr =>
    cases rr
    cases r
    obtain ⟨its, rv, tp, hz⟩ := I1.tuple hq
    have la : a < s1.heap.objs.size := by
      obtain ⟨o, ho, _⟩ := tp
      exact Heap.lt_size ho
    refine call_enum (begins_tuple a its.toArray) tp fun h' he hit hk => wpAny_pyIter_enum he ?_
    have I2 : Inv X pins σ H1 { s1 with heap := h' } := I1.kept (t' := s1.toks) hk
    refine ⟨s1.heap.objs.size + 1, [s1.heap.objs.size + 1, s1.heap.objs.size], _, _, H1, rfl, I2, turn_tupEnum a (s1.heap.objs.size + 1) s1.heap.objs.size, ⟨⟨.none, he⟩, ⟨_, hit, rfl, rfl⟩, Nat.succ_ne_self _, Nat.ne_of_lt la, Nat.ne_of_gt (Nat.lt_succ_of_lt la)⟩, fun b hb => ?_, q⟩
    have hle : s1.heap.objs.size ≤ b := by
      rcases (show b = s1.heap.objs.size + 1 ∨ b = s1.heap.objs.size by simpa using hb) with z | z
      · rw [z]; exact Nat.le_succ _
      · rw [z]; exact Nat.le_refl _
    exact I1.fpOk hle (I1.hok.fresh hle)
section
variable {K : PySem.W.Frag} {ta : TA} {g : TG} {tb : TS} {D : Ends} {σ : L2.St} {H : Hp} {tt : TT} {te : TE} {vs : List Nat} {Q : VK}
theorem tFor_enumT : tFor (iEnumT K ta) g tb D σ H = ta σ H fun vs H1 => ∃ a xs, vs = [.ref a] ∧ SqT K H1 a xs ∧ tFor (fun _ H R => R (ItU K a) H) g tb D σ H1 := by
  unfold tFor iEnumT
  rfl
theorem walk_enumT {a : Addr} {xs : List V} : Walk (ItU K a) xs.length (fun H => SqT K H a xs) (fun i H v H' => ∃ N x, v = .ref N ∧ H N = none ∧ H' = upd H N (.tup [.int (i : Nat), x]) ∧ xs[i]? = some x) :=
  ⟨fun i H hi h => ⟨xs, _, h, List.getElem?_eq_getElem hi⟩, fun H h => ⟨xs, h, rfl⟩, fun i H x H' hi h ⟨N, y, e1, e2, e3, e4⟩ => ⟨N, y, e1, e2, e3, e4 xs h⟩⟩
/-- a for over enumerate(tuple), by an invariant -/
theorem for_enumT {a : Addr} {xs : List V} (Pv : Nat → L2.St → Hp → Prop) (h0 : Pv 0 σ H) (hl : ∀ i σ H, i ≤ xs.length → Pv i σ H → SqT K H a xs)
    (hs : ∀ i x σ H N, xs[i]? = some x → Pv i σ H → H N = none → g (.ref N) σ (upd H N (.tup [.int (i : Nat), x])) fun σ2 H2 => tb { D with nx := Pv (i + 1), ct := Pv (i + 1), bk := D.nx } σ2 H2) (hd : ∀ σ H, Pv xs.length σ H → D.nx σ H) :
    tFor (fun _ H R => R (ItU K a) H) g tb D σ H := for_it walk_enumT Pv h0 hl (fun i x σ H H' hi hp hy => by
      obtain ⟨N, y, rfl, hN, rfl, hx⟩ := hy
      exact hs i y σ H N hx hp hN) hd
end
/-! ### plain tuples: the object has no dict of its own -/
def PlO (o : Obj) : Prop := o.cls = .type "tuple" ∧ o.dict = none
def PlT (H : Hp) (a : Addr) (xs : List V) : Prop := ∃ o, H a = some (.frz o (.tup xs)) ∧ PlO o
theorem PlT.sqt {K : PySem.W.Frag} {H : Hp} {a : Addr} {xs : List V} (h : PlT H a xs) : SqT K H a xs := by
  obtain ⟨o, e, _⟩ := h
  exact .inl (.inr ⟨o, e⟩)
theorem PlT.keep {H H' : Hp} {a : Addr} {xs : List V} (h : PlT H a xs) (s : ∀ o, H a = some o → H' a = some o) : PlT H' a xs := by
  obtain ⟨o, e, q⟩ := h
  exact ⟨o, s _ e, q⟩
theorem PlT.new {H : Hp} {a : Addr} {xs : List V} {o : Obj} (h : PlO o) : PlT (upd H a (.frz o (.tup xs))) a xs := ⟨o, upd_same, h⟩
section
variable {X : Cx} {K : PySem.W.Frag}
theorem laid_plain {pins : List (Addr × Obj)} {σ : L2.St} {H : Hp} {s : Shared} {ys : List V} {its : List Value} (I : Inv X pins σ H s) (r : Vals ys its) (z : ys.length ≤ sizeLine) :
    Inv X pins σ (upd H s.heap.objs.size (.frz { cls := .type "tuple", data := .seq its.toArray } (.tup ys))) { s with heap := s.heap.push { cls := .type "tuple", data := .seq its.toArray } } :=
  I.laid (t' := s.toks) (fun b o e => Heap.get?_push_of_some _ e) (Nat.le_refl _) ⟨Heap.get?_push_size _ rfl, z, its, r, IsTup.new _ _⟩
def rTupP (K : PySem.W.Frag) : List V → Hp → VK → Prop := fun xs H Q => ∃ p ys, xs = [.ref p] ∧ SqL K H p ys ∧ ∀ l o, H l = none → PlO o → Q (.ref l) (upd H l (.frz o (.tup ys)))
/-- tuple(list), plain -/
theorem call_tupP (hK : X.K = K) : CallR X (.type "tuple") (rTupP K) := by
  subst hK
  intro pins s σ H xs us Q I r h
  obtain ⟨p, ys, rfl, hq, q⟩ := h
  obtain ⟨u, rfl, rx⟩ := vals1 r
  cases rx
  obtain ⟨its, r', pl, hz⟩ := I.list hq
  have hlen := r'.length
  refine call_tuple_list pl.isList (fun h' kp => ?_) (by simp only [List.size_toArray] <;> omega)
  have I1 : Inv X pins σ H { s with heap := h' } := I.kept (t' := s.toks) kp
  exact ⟨.ref h'.objs.size, _, laid_plain I1 r' hz, rfl, q _ _ (I1.hok.fresh (Nat.le_refl _)) ⟨rfl, rfl⟩⟩
def rCatP : R2 := fun x y H Q => ∃ a b xs ys, x = .ref a ∧ y = .ref b ∧ PlT H a xs ∧ PlT H b ys ∧ xs.length + ys.length ≤ 1000000 ∧
  ∀ p H', PlT H' p (xs ++ ys) → Same H H' → Q (.ref p) H'
theorem line_big : 1000000 ≤ sizeLine := by rw [sizeLine_eq]; decide
/-- t + u, plain -/
theorem op_catP : OpR X (binaryOp .Add) rCatP := by
  intro pins s σ H x y v u Q I rx ry h
  obtain ⟨a, b, xs, ys, rfl, rfl, ha, hb, hz, q⟩ := h
  cases rx
  cases ry
  have hsz := Nat.le_trans hz line_big
  obtain ⟨its, r1, p1, _⟩ := I.tuple (ha.sqt (K := X.K))
  obtain ⟨its2, r2, p2, _⟩ := I.tuple (hb.sqt (K := X.K))
  by_cases hx : xs = []
  · subst hx
    cases r1
    exact cat_tup0 p1 p2 ⟨.ref b, H, I, rfl, q b H (by simpa using hb) fun _ _ e => e⟩
  · refine HT.cat_tup p1 p2 (fun z => hx (r1.nil_iff.mp z)) (fun z => ?_) (fun z => ?_) (by rw [← r1.length, ← r2.length]; exact hsz)
    · have e := r2.nil_iff.mp z
      subst e
      exact ⟨.ref a, H, I, rfl, q a H (by simpa using ha) fun _ _ e => e⟩
    · have hf := I.hok.fresh (Nat.le_refl s.heap.objs.size)
      exact ⟨.ref s.heap.objs.size, _, laid_plain I (r1.append r2) (by rw [List.length_append]; exact hsz), rfl, q _ _ (.new ⟨rfl, rfl⟩) fun b o e => by rw [upd_ne (ne_of_none e hf)]; exact e⟩
def tTupP (t : TA) : TE := fun σ H Q => t σ H fun xs H1 => xs.length ≤ sizeLine ∧ ∀ p o, H1 p = none → PlO o → Q (.ref p) (upd H1 p (.frz o (.tup xs)))
/-- a written tuple, plain -/
theorem pe_tupP {es : List Expr} {t : TA} {pos : Pos} {x1} (h : PA X es t) : PE X (.Tuple es x1 pos) (tTupP t) := by
  refine ⟨fun pins s σ H Q I hq => ?_⟩
  refine wpAny_Tuple_spliced (thn (h.run pos pins s σ H _ I hq) fun us s1 ⟨xs, H1, I1, r, z, q⟩ => ⟨by rw [← r.length]; exact z, ?_⟩)
  exact ⟨.ref s1.heap.objs.size, _, laid_plain I1 r z, rfl, q _ _ (I1.hok.fresh (Nat.le_refl _)) ⟨rfl, rfl⟩⟩
def rSlP : V → Option Int → Option Int → Hp → VK → Prop := fun x lo hi H Q => ∃ a xs, x = .ref a ∧ PlT H a xs ∧ ∀ p H', PlT H' p (cutV xs lo hi) → Same H H' → Q (.ref p) H'
theorem cutV_whole {xs : List V} {lo hi : Option Int} (h : HT.sIx xs.length 0 lo = 0 ∧ HT.sIx xs.length xs.length hi = xs.length) : cutV xs lo hi = xs := by
  unfold cutV
  rw [h.1, h.2, List.drop_zero, Nat.sub_zero, List.take_length]
/-- t[lo:hi], plain -/
theorem sl_tupP : SlR X rSlP := by
  intro pins s σ H x v vl vu lo hi sl Q I rx hs pl pu h
  obtain ⟨a, xs, rfl, hx, q⟩ := h
  cases rx
  obtain ⟨its, r, ht, hz⟩ := I.tuple (hx.sqt (K := X.K))
  have hlen : its.toArray.size = xs.length := by rw [List.size_toArray]; exact r.length.symm
  refine ⟨"tuple", _, PyProof.Rows.slot_tuple_getitem.lookup, ht.typeIs, ?_⟩
  by_cases hw : HT.sIx xs.length 0 lo = 0 ∧ HT.sIx xs.length xs.length hi = xs.length
  · exact getItem_tuple_whole ht hs pl pu (by rw [hlen]; exact hw) ⟨.ref a, H, I, rfl, q a H (by rw [cutV_whole hw]; exact hx) fun _ _ e => e⟩
  · refine HT.getItem_tuple_cut ht hs pl pu (by rw [hlen]; exact hw) ?_ (by rw [hlen]; exact hz)
    rw [hlen]
    have hf := I.hok.fresh (Nat.le_refl s.heap.objs.size)
    exact ⟨.ref s.heap.objs.size, _, laid_plain I ((r.drop (HT.sIx xs.length 0 lo)).take (HT.sIx xs.length xs.length hi - HT.sIx xs.length 0 lo)) (Nat.le_trans (cutV_length xs lo hi) hz), rfl,
      q _ _ (.new ⟨rfl, rfl⟩) fun b o e => by rw [upd_ne (ne_of_none e hf)]; exact e⟩
/-! ### dict(tuple of pairs) -/
def rDictT (K : PySem.W.Frag) : List V → Hp → VK → Prop := fun xs H Q => ∃ (a : Addr) (ps : List Addr) (kvs : List (Key × V)), xs = [.ref a] ∧ PlT H a (ps.map V.ref) ∧ Paired (fun p kv => SqT K H p [kV kv.1, kv.2]) ps kvs ∧ ∀ p, H p = none → Q (.ref p) (upd H p (.dK (mergeK [] kvs)))
theorem pairs_of2 {pins : List (Addr × Obj)} {σ : L2.St} {H : Hp} {s : Shared} (I : Inv X pins σ H s) : ∀ {ps : List Addr} {kvs : List (Key × V)}, Paired (fun p kv => SqT X.K H p [kV kv.1, kv.2]) ps kvs →
    ∃ (prs : List (Key × Value)) (vps : List (Value × Value)), KV kvs prs ∧ prs.length = ps.length ∧ vps.length = ps.length ∧ ∀ (j : Nat) (q : Value × Value), vps[j]? = some q → ∃ (b : Addr) (k : Key), ps[j]? = some b ∧ prs[j]? = some (k, q.2) ∧ IsTup s.heap b #[q.1, q.2] ∧ keyIs k q.1 = true
  | _, _, .nil => ⟨[], [], .nil, rfl, rfl, fun j q e => by simp at e⟩
  | _, _, .cons (a := p) (b := kv) h t => by
    obtain ⟨prs, vps, r, hl, hv, hp⟩ := pairs_of2 I t
    obtain ⟨its, rv, ht, _⟩ := I.tuple h
    obtain ⟨u, y, ei, ru, ry⟩ := vals2 rv
    subst ei
    refine ⟨(kv.1, y) :: prs, (u, y) :: vps, .cons ⟨rfl, ry⟩ r, by rw [List.length_cons, List.length_cons, hl], by rw [List.length_cons, List.length_cons, hv], fun j q e => ?_⟩
    cases j with
    | zero =>
      have e' : (u, y) = q := Option.some.inj e
      subst e'
      exact ⟨p, kv.1, rfl, rfl, ht, kV_is (P := X.prog) (w := X.w) ru⟩
    | succ j =>
      obtain ⟨b, k', e1, e2, e3, e4⟩ := hp j q (by simpa using e)
      exact ⟨b, k', by simpa using e1, by simpa using e2, e3, e4⟩
theorem call_dictT (hK : X.K = K) (hcalm : X.calm = true) : CallR X (.type "dict") (rDictT K) := by
  subst hK
  intro pins s σ H xs us Q I r q
  obtain ⟨a, ps, kvs, rfl, ⟨o, ha, hc, hd⟩, hp, q⟩ := q
  obtain ⟨u, rfl, rx⟩ := vals1 r
  cases rx
  obtain ⟨ho, hz, its, rv, tp⟩ := (show ObjOk X.prog X.w H s.heap a (.frz o (.tup (ps.map V.ref))) from I.hok a _ ha)
  have ei := refs_at rv
  subst ei
  rw [List.length_map] at hz
  obtain ⟨prs, vps, rel, hl, hv, hpr⟩ := pairs_of2 I hp
  obtain ⟨o', ho', _, n, hdat⟩ := tp
  rw [ho] at ho'
  cases ho'
  refine PySem.call_dict_pairs (knd := mixKind X.prog X.w) (kvs := prs) (PairArg.tuple a (ps.map Value.ref).toArray (fun j => (ps[j]?).getD 0) vps) (I.ok.hd hcalm)
    ⟨⟨o, n, ho, hc, hd, hdat⟩, by simp [hv], fun j k v e => ?_⟩ ⟨by rw [hl, hv], fun i key v e => ?_⟩ (by rw [hv]; exact hz) fun h' tk hd' hk => ?_
  · obtain ⟨b, k', e1, e2, e3, e4⟩ := hpr j _ e
    refine ⟨by simp [e1], .inl ?_⟩
    simp only [e1, Option.getD_some]
    exact e3
  · obtain ⟨b, k', e1, e2, e3, e4⟩ := hpr i _ e
    exact ⟨k', e2, e4⟩
  · have hm : (s.heap.objs.size == sysModules) = false := beq_eq_false_iff_ne.mpr (Nat.ne_of_gt I.big)
    have hlen : (mergeK [] kvs).length ≤ sizeLine := by
      refine Nat.le_trans (length_mergeK kvs []) ?_
      rw [List.length_nil, Nat.zero_add, rel.length, hl]
      exact hz
    exact ⟨.ref s.heap.objs.size, upd H s.heap.objs.size (.dK (mergeK [] kvs)), I.laid (t' := tk) (fun b o e => hk b o (by simp) e) (Nat.le_refl _) (show ObjOk X.prog X.w _ _ _ (.dK (mergeK [] kvs)) from ⟨hlen, hm, merged [] prs, KV.merge rel .nil, hd'⟩), rfl, q _ (I.hok.fresh (Nat.le_refl _))⟩
end
end En

set_option Elab.async false
set_option linter.all false
set_option maxRecDepth 100000
set_option maxHeartbeats 2000000
/-! pairs of stores in the heap; texts of stores, read again -/
namespace Sx
open PySem PySem.Spec PyProof.Rows L2 Rd Dt Pk Ln En TL
def L1 (c : Nat) : Str := ⟨#[c]⟩
def nk (n : Nat × Nat) : Key × V := (.inr (L1 n.1), .int n.2)
def ck (c : Nat × Nat) : Key × V := (.inl c.1, .int c.2)
/-! ### pairs in the heap -/
section
variable {K : PySem.W.Frag} {H H' : Hp}
inductive Prs (K : PySem.W.Frag) (H : Hp) : List V → List (Key × V) → Prop
  | nil : Prs K H [] []
  | cons {p : Addr} {kv : Key × V} {xs : List V} {kvs : List (Key × V)} : SqT K H p [kV kv.1, kv.2] → Prs K H xs kvs → Prs K H (.ref p :: xs) (kv :: kvs)
theorem sqt_up (s : Same H H') {a : Addr} {xs : List V} (h : SqT K H a xs) : SqT K H' a xs := by
  rcases h with (h | ⟨o, h⟩) | h
  · exact .inl (.inl (s _ _ h))
  · exact .inl (.inr ⟨o, s _ _ h⟩)
  · exact .inr h
theorem sqt_but {u : Addr} (s : But u H H') {a : Addr} (hn : a ≠ u) {xs : List V} (h : SqT K H a xs) : SqT K H' a xs := by
  rcases h with (h | ⟨o, h⟩) | h
  · exact .inl (.inl (s _ _ hn h))
  · exact .inl (.inr ⟨o, s _ _ hn h⟩)
  · exact .inr h
theorem Prs.keep (s : ∀ a xs, SqT K H a xs → SqT K H' a xs) : ∀ {xs : List V} {kvs : List (Key × V)}, Prs K H xs kvs → Prs K H' xs kvs
  | _, _, .nil => .nil
  | _, _, .cons e h => .cons (s _ _ e) (h.keep s)
theorem Prs.up (s : Same H H') {xs : List V} {kvs : List (Key × V)} (h : Prs K H xs kvs) : Prs K H' xs kvs := h.keep fun _ _ e => sqt_up s e
theorem Prs.len : ∀ {xs : List V} {kvs : List (Key × V)}, Prs K H xs kvs → xs.length = kvs.length
  | _, _, .nil => rfl
  | _, _, .cons _ h => congrArg (· + 1) h.len
theorem Prs.atV : ∀ {xs : List V} {kvs : List (Key × V)}, Prs K H xs kvs → ∀ {i : Nat} {v : V}, xs[i]? = some v → ∃ (kv : Key × V) (b : Addr), kvs[i]? = some kv ∧ v = .ref b ∧ SqT K H b [kV kv.1, kv.2]
  | _, _, .nil, i, v, h => by cases i <;> cases h
  | _, _, .cons e h, i, v, hv => by
    cases i with
    | zero => cases hv; exact ⟨_, _, rfl, rfl, e⟩
    | succ i => exact h.atV hv
theorem Prs.append : ∀ {xs ys : List V} {ws vs : List (Key × V)}, Prs K H xs ws → Prs K H ys vs → Prs K H (xs ++ ys) (ws ++ vs)
  | _, _, _, _, .nil, g => g
  | _, _, _, _, .cons e h, g => .cons e (h.append g)
theorem Prs.take : ∀ {xs : List V} {ws : List (Key × V)}, Prs K H xs ws → ∀ n, Prs K H (xs.take n) (ws.take n)
  | _, _, .nil, n => by cases n <;> exact .nil
  | _, _, .cons e h, n => by
    cases n with
    | zero => exact .nil
    | succ n => exact .cons e (h.take n)
theorem Prs.drop : ∀ {xs : List V} {ws : List (Key × V)}, Prs K H xs ws → ∀ n, Prs K H (xs.drop n) (ws.drop n)
  | _, _, .nil, n => by cases n <;> exact .nil
  | _, _, .cons e h, n => by
    cases n with
    | zero => exact .cons e h
    | succ n => exact h.drop n
theorem Prs.refs : ∀ {xs : List V} {kvs : List (Key × V)}, Prs K H xs kvs → ∃ ps : List Addr, xs = ps.map V.ref ∧ Paired (fun p kv => SqT K H p [kV kv.1, kv.2]) ps kvs
  | _, _, .nil => ⟨[], rfl, .nil⟩
  | _, _, .cons (p := p) e h => by
    obtain ⟨ps, rfl, q⟩ := h.refs
    exact ⟨p :: ps, rfl, .cons e q⟩
/-- a plain tuple of pairs -/
def PrsAt (K : PySem.W.Frag) (H : Hp) (a : Addr) (kvs : List (Key × V)) : Prop := ∃ xs, PlT H a xs ∧ Prs K H xs kvs
theorem PlT.up (s : Same H H') {a : Addr} {xs : List V} (h : PlT H a xs) : PlT H' a xs := h.keep fun o e => s _ _ e
theorem PrsAt.up (s : Same H H') {a : Addr} {kvs : List (Key × V)} (h : PrsAt K H a kvs) : PrsAt K H' a kvs := by
  obtain ⟨xs, h1, h2⟩ := h
  exact ⟨xs, PlT.up s h1, h2.up s⟩
theorem Prs.but {u : Addr} (s : But u H H') {o : HO} (hu : H u = some o) (ho : ∀ xs, o ≠ .tup xs ∧ ∀ ob, o ≠ .frz ob (.tup xs)) {xs : List V} {kvs : List (Key × V)} (h : Prs K H xs kvs) : Prs K H' xs kvs :=
  h.keep fun a ys e => by
    rcases e with (e | ⟨ob, e⟩) | e
    · exact .inl (.inl (s _ _ (ne_of e hu fun z => (ho ys).1 z.symm) e))
    · exact .inl (.inr ⟨ob, s _ _ (ne_of e hu fun z => (ho ys).2 ob z.symm) e⟩)
    · exact .inr e
theorem PrsAt.but {u : Addr} (s : But u H H') {o : HO} (hu : H u = some o) (ho : ∀ xs, o ≠ .tup xs ∧ ∀ ob, o ≠ .frz ob (.tup xs)) {a : Addr} {kvs : List (Key × V)} (h : PrsAt K H a kvs) : PrsAt K H' a kvs := by
  obtain ⟨xs, ⟨ob, h1, h3⟩, h2⟩ := h
  exact ⟨xs, ⟨ob, s _ _ (ne_of h1 hu fun z => (ho xs).2 ob z.symm) h1, h3⟩, h2.but s hu ho⟩
/-! ### as data -/
def kD : Key → PyData
  | .inl i => .int i
  | .inr s => .str s
def vD : V → PyData
  | .int i => .int i
  | _ => .none
def pD (kv : Key × V) : PyData := .tuple [kD kv.1, vD kv.2]
def IntV (kvs : List (Key × V)) : Prop := ∀ kv ∈ kvs, ∃ i, kv.2 = .int i
theorem Prs.dp : ∀ {xs : List V} {kvs : List (Key × V)}, Prs K H xs kvs → IntV kvs → DpAll K H xs (kvs.map pD)
  | _, _, .nil, _ => .nil
  | _, _, .cons (kv := kv) e h, z => by
    refine .cons (.tup e (.cons ?_ (.cons ?_ .nil))) (h.dp fun x hx => z x (List.mem_cons_of_mem _ hx))
    · cases kv.1 with
      | inl i => exact .int i
      | inr s => exact .str s
    · obtain ⟨i, ei⟩ := z kv (List.mem_cons_self ..)
      rw [ei]
      exact .int i
theorem PrsAt.dp {a : Addr} {kvs : List (Key × V)} (h : PrsAt K H a kvs) (z : IntV kvs) : Dp K H (.ref a) (.tuple (kvs.map pD)) := by
  obtain ⟨xs, h1, h2⟩ := h
  exact .tup h1.sqt (h2.dp z)
theorem intV_n (ns : List (Nat × Nat)) : IntV (ns.map nk) := fun kv hk => by
  obtain ⟨n, _, rfl⟩ := List.mem_map.mp hk
  exact ⟨_, rfl⟩
theorem intV_c (ns : List (Nat × Nat)) : IntV (ns.map ck) := fun kv hk => by
  obtain ⟨n, _, rfl⟩ := List.mem_map.mp hk
  exact ⟨_, rfl⟩
end
/-! ### dicts of pairs -/
theorem putK_new {κ : Type} [DecidableEq κ] {kvs : List (κ × V)} {k : κ} {v : V} (h : ∀ x ∈ kvs, x.1 ≠ k) : putK kvs k v = kvs ++ [(k, v)] := by
  unfold putK
  rw [if_neg]
  intro z
  obtain ⟨x, hx, e⟩ := List.any_eq_true.mp z
  exact h x hx (of_decide_eq_true e)
theorem merge_new : ∀ (kvs acc : List (Key × V)), (∀ x ∈ acc, ∀ y ∈ kvs, x.1 ≠ y.1) → kvs.Pairwise (fun x y => x.1 ≠ y.1) → mergeK acc kvs = acc ++ kvs
  | [], acc, _, _ => by rw [List.append_nil]; rfl
  | kv :: kvs, acc, h, p => by
    rw [List.pairwise_cons] at p
    show mergeK (putK acc kv.1 kv.2) kvs = _
    rw [putK_new (fun x hx => h x hx kv (List.mem_cons_self ..)), merge_new kvs _ (fun x hx y hy => ?_) p.2, List.append_assoc]
    · rfl
    · rcases List.mem_append.mp hx with hx | hx
      · exact h x hx y (List.mem_cons_of_mem _ hy)
      · rw [List.mem_singleton.mp hx]
        exact p.1 y hy
def Asc (ns : List (Nat × Nat)) : Prop := ns.Pairwise fun x y => x.1 < y.1
theorem L1_inj {c d : Nat} (h : L1 c = L1 d) : c = d := by
  unfold L1 at h
  injection h with h
  have := congrArg Array.toList h
  simpa using this
theorem merge_n {ns : List (Nat × Nat)} (h : Asc ns) : mergeK [] (ns.map nk) = ns.map nk :=
  merge_new _ [] (fun _ hx => nomatch hx) (List.pairwise_map.mpr (h.imp fun {a b} q z => by
    have : (Sum.inr (L1 a.1) : Key) = .inr (L1 b.1) := z
    injection this with this
    have := L1_inj this
    omega))
theorem merge_c {cs : List (Nat × Nat)} (h : Asc cs) : mergeK [] (cs.map ck) = cs.map ck :=
  merge_new _ [] (fun _ hx => nomatch hx) (List.pairwise_map.mpr (h.imp fun {a b} q z => by
    have : (Sum.inl (a.1 : Int) : Key) = .inl (b.1 : Int) := z
    injection this with this
    omega))
/-- what is told behind a first part -/
def look (ns : List (Nat × Nat)) (k : Nat) : Option Nat := (ns.find? fun n => decide (n.1 = k)).map (·.2)
theorem val_n (ns : List (Nat × Nat)) (k : Nat) : valV (ns.map nk) (.inr (L1 k) : Key) = (look ns k).map fun v : Nat => V.int v := by
  unfold valV look
  rw [List.find?_map, Option.map_map, Option.map_map]
  have : ((fun kv : Key × V => decide (kv.1 = .inr (L1 k))) ∘ nk) = fun n => decide (n.1 = k) := by
    funext n
    show decide ((Sum.inr (L1 n.1) : Key) = .inr (L1 k)) = _
    rw [decide_eq_decide]
    exact ⟨fun z => by injection z with z; exact L1_inj z, fun z => by rw [z]⟩
  rw [this]
  rfl
theorem val_c (ns : List (Nat × Nat)) (k : Int) : valV (ns.map ck) (.inl k : Key) = (if 0 ≤ k then look ns k.toNat else none).map fun v : Nat => V.int v := by
  unfold valV look
  rw [List.find?_map, Option.map_map]
  by_cases h : 0 ≤ k
  · rw [if_pos h, Option.map_map]
    have : ((fun kv : Key × V => decide (kv.1 = .inl k)) ∘ ck) = fun n => decide (n.1 = k.toNat) := by
      funext n
      show decide ((Sum.inl (n.1 : Int) : Key) = .inl k) = _
      rw [decide_eq_decide]
      exact ⟨fun z => by injection z with z; omega, fun z => by rw [z]; congr 1; omega⟩
    rw [this]
    rfl
  · rw [if_neg h]
    have : ((fun kv : Key × V => decide (kv.1 = .inl k)) ∘ ck) = fun n => false := by
      funext n
      show decide ((Sum.inl (n.1 : Int) : Key) = .inl k) = _
      rw [decide_eq_false]
      intro z
      injection z with z
      omega
    rw [this]
    simp
/-! ### texts -/
def nameW (n : Nat × Nat) : Str := L1 n.1 ++ "=" ++ numT n.2
def cellW (c : Nat × Nat) : Str := numT c.1 ++ ">" ++ numT c.2
def namesT (ns : List (Nat × Nat)) : Str := Txt.join " " (ns.map nameW)
def cellsT (cs : List (Nat × Nat)) : Str := if cs = [] then "none" else Txt.join " " (cs.map cellW)
def storeT (ns cs : List (Nat × Nat)) : Str := namesT ns ++ " | " ++ cellsT cs
def lettT (ns : List (Nat × Nat)) : Str := Txt.join "" (ns.map fun n => L1 n.1)
def NmOk (ns : List (Nat × Nat)) : Prop := 1 ≤ ns.length ∧ ns.length ≤ 4 ∧ (∀ n ∈ ns, 97 ≤ n.1 ∧ n.1 ≤ 122 ∧ n.2 ≤ 999) ∧ Asc ns
def ClOk (cs : List (Nat × Nat)) : Prop := cs.length ≤ 500 ∧ (∀ c ∈ cs, 1 ≤ c.1 ∧ c.1 ≤ 999 ∧ c.2 ≤ 999) ∧ Asc cs
theorem pre_second {a b : Nat} {S l : List Nat} (h : l[1]? ≠ some b) : pre (a :: b :: S) l = false := by
  unfold pre
  rw [beq_eq_false_iff_ne]
  intro z
  apply h
  have := congrArg (fun m : List Nat => m[1]?) z
  simp only [List.getElem?_cons_succ, List.getElem?_cons_zero] at this
  rw [List.getElem?_take] at this
  split at this
  · exact this
  · cases this
theorem tl_bar : tl " | " = [32, 124, 32] := by decide +kernel
theorem tl_eq : tl "=" = 61 :: [] := by decide +kernel
theorem tl_gt : tl ">" = 62 :: [] := by decide +kernel
theorem tl_L1 (c : Nat) : tl (L1 c) = [c] := rfl
theorem split_bar {a b : Str} (ha : 124 ∉ tl a) (hb : 124 ∉ tl b) : Txt.split (a ++ " | " ++ b) " | " = [a, b] := by
  refine map_tl_inj ?_
  rw [split_spl _ _ (by rw [tl_bar]; simp) (kind_ok (by decide +kernel)), tl_append, tl_append, tl_bar, List.append_assoc]
  have one : ∀ (p : List Nat) (i : Nat) (r : List Nat), 124 ∉ p → i < p.length → ((p ++ (32 :: r)).drop i)[1]? ≠ some 124 := fun p i r hp hi z => by
    rw [List.getElem?_drop] at z
    by_cases c : i + 1 < p.length
    · rw [List.getElem?_append_left c] at z
      exact hp (List.mem_of_getElem? z)
    · rw [List.getElem?_append_right (by omega), show i + 1 - p.length = 0 by omega] at z
      simp at z
  rw [spl_part (by simp) (fun i hi => pre_second (one _ i _ ha hi)), spl_last (fun i hi => pre_second fun z => hb ?_)]
  · simp
  · rw [List.getElem?_drop] at z
    exact List.mem_of_getElem? z
theorem num_no {n s : Nat} (h : n ≤ 999) (hs : s < 48 ∨ 57 < s) : s ∉ tl (numT n) := fun z => by
  have := (numT_at (show n ≤ 1000 by omega)).2.2.1 s z
  omega
theorem name_split {n : Nat × Nat} (h : 97 ≤ n.1) (h2 : n.2 ≤ 999) : Txt.split (nameW n) "=" = [L1 n.1, numT n.2] := by
  have e : nameW n = Txt.join "=" [L1 n.1, numT n.2] := by rw [join_eq]; rfl
  rw [e]
  refine split_join tl_eq (by decide +kernel) (by simp) fun p hp => ?_
  rcases List.mem_cons.mp hp with rfl | hp
  · rw [tl_L1]; simp; omega
  · rw [List.mem_singleton.mp hp]; exact num_no h2 (by omega)
theorem cell_split {n : Nat × Nat} (h : n.1 ≤ 999) (h2 : n.2 ≤ 999) : Txt.split (cellW n) ">" = [numT n.1, numT n.2] := by
  have e : cellW n = Txt.join ">" [numT n.1, numT n.2] := by rw [join_eq]; rfl
  rw [e]
  refine split_join tl_gt (by decide +kernel) (by simp) fun p hp => ?_
  rcases List.mem_cons.mp hp with rfl | hp
  · exact num_no h (by omega)
  · rw [List.mem_singleton.mp hp]; exact num_no h2 (by omega)
theorem nameW_no {n : Nat × Nat} {s : Nat} (h : 97 ≤ n.1 ∧ n.1 ≤ 122) (h2 : n.2 ≤ 999) (hs : s < 48 ∨ 122 < s) : s ∉ tl (nameW n) := by
  unfold nameW
  rw [tl_append, tl_append, tl_eq, tl_L1]
  intro z
  rcases List.mem_append.mp z with z | z
  · simp at z; omega
  · exact num_no h2 (by omega) z
theorem cellW_no {n : Nat × Nat} {s : Nat} (h : n.1 ≤ 999) (h2 : n.2 ≤ 999) (hs : s < 48 ∨ 122 < s) : s ∉ tl (cellW n) := by
  unfold cellW
  rw [tl_append, tl_append, tl_gt]
  intro z
  rcases List.mem_append.mp z with z | z
  · rcases List.mem_append.mp z with z | z
    · exact num_no h (by omega) z
    · simp at z; omega
  · exact num_no h2 (by omega) z
theorem joinL_mem {S : List Nat} {s : Nat} : ∀ {ps : List (List Nat)}, s ∈ joinL S ps → s ∈ S ∨ ∃ p ∈ ps, s ∈ p
  | [], h => nomatch h
  | [p], h => .inr ⟨p, List.mem_singleton.mpr rfl, h⟩
  | p :: q :: r, h => by
    rcases List.mem_append.mp (show s ∈ p ++ (S ++ joinL S (q :: r)) from h) with h | h
    · exact .inr ⟨p, List.mem_cons_self .., h⟩
    · rcases List.mem_append.mp h with h | h
      · exact .inl h
      · rcases joinL_mem h with h | ⟨x, hx, hs⟩
        · exact .inl h
        · exact .inr ⟨x, List.mem_cons_of_mem _ hx, hs⟩
theorem join_no {y : Str} {ws : List Str} {s : Nat} (hy : s ∉ tl y) (h : ∀ w ∈ ws, s ∉ tl w) : s ∉ tl (Txt.join y ws) := by
  rw [join_eq, tl_join]
  intro z
  rcases joinL_mem z with z | ⟨p, hp, hs⟩
  · exact hy z
  · obtain ⟨w, hw, rfl⟩ := List.mem_map.mp hp
    exact h w hw hs
theorem names_no {ns : List (Nat × Nat)} (h : NmOk ns) : 124 ∉ tl (namesT ns) := join_no (by decide +kernel) fun w hw => by
  obtain ⟨n, hn, rfl⟩ := List.mem_map.mp hw
  have := h.2.2.1 n hn
  exact nameW_no ⟨this.1, this.2.1⟩ this.2.2 (by omega)
theorem cells_no {cs : List (Nat × Nat)} (h : ClOk cs) : 124 ∉ tl (cellsT cs) := by
  unfold cellsT
  split
  · decide +kernel
  · exact join_no (by decide +kernel) fun w hw => by
      obtain ⟨n, hn, rfl⟩ := List.mem_map.mp hw
      have := h.2.1 n hn
      exact cellW_no this.2.1 this.2.2 (by omega)
theorem store_split {ns cs : List (Nat × Nat)} (h : NmOk ns) (g : ClOk cs) : Txt.split (storeT ns cs) " | " = [namesT ns, cellsT cs] := split_bar (names_no h) (cells_no g)
theorem names_split {ns : List (Nat × Nat)} (h : NmOk ns) : Txt.split (namesT ns) " " = ns.map nameW := by
  refine split_join tl_spc (by decide +kernel) (fun z => ?_) fun p hp => ?_
  · have := h.1
    have e := List.map_eq_nil_iff.mp z
    rw [e] at this
    simp at this
  · obtain ⟨n, hn, rfl⟩ := List.mem_map.mp hp
    have := h.2.2.1 n hn
    exact nameW_no ⟨this.1, this.2.1⟩ this.2.2 (by omega)
theorem cells_split {cs : List (Nat × Nat)} (hc : cs ≠ []) (h : ClOk cs) : Txt.split (cellsT cs) " " = cs.map cellW := by
  unfold cellsT
  rw [if_neg hc]
  refine split_join tl_spc (by decide +kernel) (by simpa using hc) fun p hp => ?_
  obtain ⟨n, hn, rfl⟩ := List.mem_map.mp hp
  have := h.2.1 n hn
  exact cellW_no this.2.1 this.2.2 (by omega)
theorem cells_none {cs : List (Nat × Nat)} (hc : cs ≠ []) (h : ClOk cs) : cellsT cs ≠ "none" := fun z => by
  have e := cells_split hc h
  rw [z] at e
  have e2 : Txt.split (Txt.join " " [Str.ofString "none"]) " " = [Str.ofString "none"] := split_join tl_spc (by decide +kernel) (by simp) (fun p hp => by rw [List.mem_singleton.mp hp]; decide +kernel)
  have e3 : Txt.join " " [Str.ofString "none"] = "none" := by rw [join_eq]; rfl
  rw [e3] at e2
  rw [e2] at e
  cases cs with
  | nil => exact hc rfl
  | cons c r =>
    have e4 : Str.ofString "none" = cellW c := by
      rw [List.map_cons] at e
      injection e
    have e5 : 62 ∈ tl (cellW c) := by
      unfold cellW
      rw [tl_append, tl_append, tl_gt]
      simp
    rw [← e4] at e5
    exact absurd e5 (by decide +kernel)
theorem cells_empty {cs : List (Nat × Nat)} (hc : cs ≠ []) (h : ClOk cs) : Txt.join " " (cs.map cellW) ≠ "" := fun z => by
  have e := cells_split hc h
  unfold cellsT at e
  rw [if_neg hc, z] at e
  have e2 : Txt.split (Txt.join " " [Str.ofString ""]) " " = [Str.ofString ""] := split_join tl_spc (by decide +kernel) (by simp) (fun p hp => by rw [List.mem_singleton.mp hp]; decide +kernel)
  have e3 : Txt.join " " [Str.ofString ""] = "" := by rw [join_eq]; rfl
  rw [e3] at e2
  rw [e2] at e
  cases cs with
  | nil => exact hc rfl
  | cons c r =>
    have e4 : Str.ofString "" = cellW c := by
      rw [List.map_cons] at e
      injection e
    have e5 : 62 ∈ tl (cellW c) := by
      unfold cellW
      rw [tl_append, tl_append, tl_gt]
      simp
    rw [← e4] at e5
    exact absurd e5 (by decide +kernel)
/-! ### lengths and signs -/
theorem nlen {n : Nat} (h : n ≤ 999) : (numT n).length ≤ 4 := by
  rw [(numT_at (show n ≤ 1000 by omega)).1]
  exact (nl_pos n).2
theorem nameW_len {n : Nat × Nat} (h : n.2 ≤ 999) : (nameW n).length ≤ 6 := by
  unfold nameW
  rw [Str.length_append, Str.length_append]
  have := nlen h
  have e : ("=" : Str).length = 1 := by decide
  have e1 : (L1 n.1).length = 1 := rfl
  omega
theorem cellW_len {n : Nat × Nat} (h1 : n.1 ≤ 999) (h : n.2 ≤ 999) : (cellW n).length ≤ 9 := by
  unfold cellW
  rw [Str.length_append, Str.length_append]
  have := nlen h
  have := nlen h1
  have e : (">" : Str).length = 1 := by decide
  omega
theorem joinL_len {S : List Nat} {m : Nat} : ∀ {ps : List (List Nat)}, (∀ p ∈ ps, p.length ≤ m) → (joinL S ps).length ≤ ps.length * (m + S.length)
  | [], _ => Nat.zero_le _
  | [p], h => by
    have := h p (List.mem_singleton.mpr rfl)
    show p.length ≤ 1 * (m + S.length)
    omega
  | p :: q :: r, h => by
    have h1 := h p (List.mem_cons_self ..)
    have h2 := joinL_len (S := S) (ps := q :: r) fun x hx => h x (List.mem_cons_of_mem _ hx)
    show (p ++ (S ++ joinL S (q :: r))).length ≤ ((q :: r).length + 1) * (m + S.length)
    rw [List.length_append, List.length_append, Nat.add_mul]
    omega
theorem join_len {y : Str} {ws : List Str} {m : Nat} (h : ∀ w ∈ ws, w.length ≤ m) : (Txt.join y ws).length ≤ ws.length * (m + y.length) := by
  rw [join_eq]
  have e : ∀ z : Str, z.length = (tl z).length := fun z => by unfold tl; rw [Array.length_toList]; rfl
  rw [e, tl_join, e y]
  have := joinL_len (S := tl y) (m := m) (ps := ws.map tl) fun p hp => by
    obtain ⟨w, hw, rfl⟩ := List.mem_map.mp hp
    rw [← e]
    exact h w hw
  rwa [List.length_map] at this
theorem namesT_len {ns : List (Nat × Nat)} (h : NmOk ns) : (namesT ns).length ≤ 28 := by
  have := join_len (y := " ") (ws := ns.map nameW) (m := 6) fun w hw => by
    obtain ⟨n, hn, rfl⟩ := List.mem_map.mp hw
    exact nameW_len (h.2.2.1 n hn).2.2
  rw [List.length_map] at this
  have e : (" " : Str).length = 1 := by decide
  rw [e] at this
  have := h.2.1
  unfold namesT
  omega
theorem cellsT_len {cs : List (Nat × Nat)} (h : ClOk cs) : (cellsT cs).length ≤ 5004 ∧ (Txt.join " " (cs.map cellW)).length ≤ 5000 := by
  have := join_len (y := " ") (ws := cs.map cellW) (m := 9) fun w hw => by
    obtain ⟨n, hn, rfl⟩ := List.mem_map.mp hw
    exact cellW_len (h.2.1 n hn).2.1 (h.2.1 n hn).2.2
  rw [List.length_map] at this
  have e : (" " : Str).length = 1 := by decide
  rw [e] at this
  have := h.1
  refine ⟨?_, by omega⟩
  unfold cellsT
  split
  · have : ("none" : Str).length = 4 := by decide
    omega
  · omega
theorem storeT_len {ns cs : List (Nat × Nat)} (h : NmOk ns) (g : ClOk cs) : (storeT ns cs).length ≤ 5040 := by
  unfold storeT
  rw [Str.length_append, Str.length_append]
  have := namesT_len h
  have := (cellsT_len g).1
  have e : (" | " : Str).length = 3 := by decide
  omega
theorem lettT_len {ns : List (Nat × Nat)} (h : NmOk ns) : (lettT ns).length ≤ 4 := by
  have := join_len (y := "") (ws := ns.map fun n => L1 n.1) (m := 1) fun w hw => by
    obtain ⟨n, hn, rfl⟩ := List.mem_map.mp hw
    exact Nat.le_refl _
  rw [List.length_map] at this
  have e : ("" : Str).length = 0 := by decide
  rw [e] at this
  have := h.2.1
  unfold lettT
  omega
theorem namesT_ch {ns : List (Nat × Nat)} (h : NmOk ns) : ∀ c ∈ tl (namesT ns), c < 0x110000 := fun c hc => by
  refine Decidable.by_contra fun z => ?_
  refine join_no ?_ (fun w hw => ?_) hc
  · rw [show tl " " = [32] from by decide +kernel]; simp; omega
  · obtain ⟨n, hn, rfl⟩ := List.mem_map.mp hw
    have := h.2.2.1 n hn
    exact nameW_no ⟨this.1, this.2.1⟩ this.2.2 (by omega)
theorem cellsT_ch {cs : List (Nat × Nat)} (h : ClOk cs) : ∀ c ∈ tl (cellsT cs), c < 0x110000 := fun c hc => by
  refine Decidable.by_contra fun z => ?_
  unfold cellsT at hc
  split at hc
  · rw [show tl "none" = [110, 111, 110, 101] from by decide +kernel] at hc
    simp at hc
    omega
  · refine join_no ?_ (fun w hw => ?_) hc
    · rw [show tl " " = [32] from by decide +kernel]; simp; omega
    · obtain ⟨n, hn, rfl⟩ := List.mem_map.mp hw
      have := h.2.1 n hn
      exact cellW_no this.2.1 this.2.2 (by omega)
theorem storeT_ch {ns cs : List (Nat × Nat)} (h : NmOk ns) (g : ClOk cs) : ∀ c ∈ tl (storeT ns cs), c < 0x110000 := fun c hc => by
  unfold storeT at hc
  rw [tl_append, tl_append, tl_bar] at hc
  rcases List.mem_append.mp hc with hc | hc
  · rcases List.mem_append.mp hc with hc | hc
    · exact namesT_ch h c hc
    · simp at hc; omega
  · exact cellsT_ch g c hc
theorem lettT_ch {ns : List (Nat × Nat)} (h : NmOk ns) : ∀ c ∈ tl (lettT ns), c < 0x110000 := fun c hc => by
  refine Decidable.by_contra fun z => ?_
  refine join_no ?_ (fun w hw => ?_) hc
  · rw [show tl "" = [] from by decide +kernel]; simp
  · obtain ⟨n, hn, rfl⟩ := List.mem_map.mp hw
    have := h.2.2.1 n hn
    rw [tl_L1]; simp; omega
/-! ### isinstance of a tuple -/
def rIsT (K : PySem.W.Frag) : List V → Hp → VK → Prop := fun vs H Q => ∃ a xs, vs = [.ref a, .ty "tuple"] ∧ SqT K H a xs ∧ Q (.bl true) H
theorem rIsT_ {K : PySem.W.Frag} {vs : List V} {H : Hp} {Q : VK} : rIsT K vs H Q = ∃ a xs, vs = [.ref a, .ty "tuple"] ∧ SqT K H a xs ∧ Q (.bl true) H := rfl
theorem call_isT {X : Cx} {K : PySem.W.Frag} (hK : X.K = K) : CallR X (.builtin "isinstance") (rIsT K) := by
  subst hK
  intro pins s σ H vs us Q I r h
  obtain ⟨a, xs, rfl, ha, q⟩ := h
  cases r with
  | cons r1 rr =>
    cases rr with
    | cons r2 rr =>
      cases rr
      cases r1
      cases r2
      obtain ⟨its, _, ⟨o, h1, h2, _⟩, _⟩ := I.tuple ha
      exact PySem.W.kia_one (b := true) PySem.W.kitx_tuple I.kIn ⟨o, h1, h2⟩ (by rfl) (fun z => nomatch z) fun tk => ⟨.bl true, H, I.tok tk, rfl, q⟩
end Sx

set_option Elab.async false
set_option linter.all false
set_option maxRecDepth 100000
set_option maxHeartbeats 2000000
/-! readings; o.m(k = v) -/
namespace Sy
open PySem PySem.Spec PyProof.Rows L2 Rd Dt Pk Ln En Sx
section
variable {K : PySem.W.Frag} {σ : L2.St} {H : Hp} {Q : VK} {td ty tv te : TE} {t : TA}
theorem tTupP_ : tTupP t σ H Q = t σ H fun xs H1 => xs.length ≤ sizeLine ∧ ∀ p o, H1 p = none → PlO o → Q (.ref p) (upd H1 p (.frz o (.tup xs))) := rfl
theorem rTupP_ {xs : List V} : rTupP K xs H Q = ∃ p ys, xs = [.ref p] ∧ SqL K H p ys ∧ ∀ l o, H l = none → PlO o → Q (.ref l) (upd H l (.frz o (.tup ys))) := rfl
theorem rCatP_ {x y : V} : rCatP x y H Q = ∃ a b xs ys, x = .ref a ∧ y = .ref b ∧ PlT H a xs ∧ PlT H b ys ∧ xs.length + ys.length ≤ 1000000 ∧ ∀ p H', PlT H' p (xs ++ ys) → Same H H' → Q (.ref p) H' := rfl
theorem rSlP_ {x : V} {lo hi : Option Int} : rSlP x lo hi H Q = ∃ a xs, x = .ref a ∧ PlT H a xs ∧ ∀ p H', PlT H' p (cutV xs lo hi) → Same H H' → Q (.ref p) H' := rfl
theorem rDictT_ {xs : List V} : rDictT K xs H Q = ∃ (a : Addr) (ps : List Addr) (kvs : List (Key × V)), xs = [.ref a] ∧ PlT H a (ps.map V.ref) ∧ Paired (fun p kv => SqT K H p [kV kv.1, kv.2]) ps kvs ∧ ∀ p, H p = none → Q (.ref p) (upd H p (.dK (mergeK [] kvs))) := rfl
theorem tDGet_ : tDGet td ty σ H Q = td σ H fun x H1 => ty σ H1 fun y H2 => ∃ a v, x = .ref a ∧ DGet H2 a y (some v) ∧ Q v H2 := rfl
theorem tDGet1_ : tDGet1 td ty σ H Q = td σ H fun x H1 => ∃ a, x = .ref a ∧ IsD H1 a ∧ ty σ H1 fun y H2 => ∃ o, DGet H2 a y o ∧ Q (o.getD .non) H2 := rfl
theorem tDIn_ : tDIn ty td σ H Q = ty σ H fun y H1 => td σ H1 fun x H2 => ∃ a o, x = .ref a ∧ DGet H2 a y o ∧ Q (.bl o.isSome) H2 := rfl
theorem tDNotIn_ : tDNotIn ty td σ H Q = ty σ H fun y H1 => td σ H1 fun x H2 => ∃ a o, x = .ref a ∧ DGet H2 a y o ∧ Q (.bl (!o.isSome)) H2 := rfl
theorem tMeth_ {C : Addr} {m : Str} {sp : Sp} {dvs : List V} {E : XK} : tMeth C m sp dvs E te t σ H Q = te σ H fun x H1 => ∃ a dx fs, x = .ref a ∧ H1 a = some (.ins C dx fs) ∧ fs.lookup m = none ∧ t σ H1 fun vs H2 => sp (x :: (vs ++ dvs)) H2 Q E := rfl
theorem rSortedS_ {vs : List V} : rSortedS K vs H Q = ∃ (a : Addr) (xs : List Str), vs = [V.ref a] ∧ SqL K H a (xs.map V.str) ∧ xs.length < 64 ∧ ∀ (ys : List Str) (p : Addr), ys.Perm xs → sortedS ys = true → H p = none → Q (.ref p) (upd H p (.lst (ys.map V.str))) := rfl
def tMethKw (C : Addr) (m : Str) (n : Nat) (sp : Sp) (E : XK) (ta : TE) (tk : TA) : TE := fun σ H Q => ta σ H fun x H1 => ∃ a dx fs, x = .ref a ∧ H1 a = some (.ins C dx fs) ∧ fs.lookup m = none ∧ tk σ H1 fun zs H2 => zs.length = n ∧ sp (x :: zs) H2 Q E
theorem tMethKw_ {C : Addr} {m : Str} {n : Nat} {sp : Sp} {E : XK} {tk : TA} : tMethKw C m n sp E te tk σ H Q = te σ H fun x H1 => ∃ a dx fs, x = .ref a ∧ H1 a = some (.ins C dx fs) ∧ fs.lookup m = none ∧ tk σ H1 fun zs H2 => zs.length = n ∧ sp (x :: zs) H2 Q E := rfl
end
/-- a for over a tuple, by an invariant -/
theorem for_t {K : PySem.W.Frag} {a : Addr} {xs : List V} {g : TG} {tb : TS} {D : Ends} {σ : L2.St} {H : Hp} (Pv : Nat → L2.St → Hp → Prop) (h0 : Pv 0 σ H) (hl : ∀ i σ H, i ≤ xs.length → Pv i σ H → SqT K H a xs)
    (hs : ∀ i x σ H, xs[i]? = some x → Pv i σ H → g x σ H fun σ2 H2 => tb { D with nx := Pv (i + 1), ct := Pv (i + 1), bk := D.nx } σ2 H2) (hd : ∀ σ H, Pv xs.length σ H → D.nx σ H) : tFor (fun _ H R => R (Itt K a) H) g tb D σ H :=
  for_it walk_tup Pv h0 hl (fun i x σ H H' hi hp hy => by
    obtain ⟨rfl, hx⟩ := hy
    exact hs i x σ _ hx hp) hd
theorem tFor_enumL {K : PySem.W.Frag} {ta : TA} {g : TG} {tb : TS} {D : Ends} {σ : L2.St} {H : Hp} : tFor (iEnum K ta) g tb D σ H = ta σ H fun vs H1 => ∃ a xs, vs = [.ref a] ∧ SqL K H1 a xs ∧ tFor (fun _ H R => R (Ite K a) H) g tb D σ H1 := by
  unfold tFor iEnum
  rfl
/-- a for over enumerate(list), by an invariant -/
theorem for_enumL {K : PySem.W.Frag} {a : Addr} {xs : List V} {g : TG} {tb : TS} {D : Ends} {σ : L2.St} {H : Hp} (Pv : Nat → L2.St → Hp → Prop) (h0 : Pv 0 σ H) (hl : ∀ i σ H, i ≤ xs.length → Pv i σ H → SqL K H a xs)
    (hs : ∀ i x σ H N, xs[i]? = some x → Pv i σ H → H N = none → g (.ref N) σ (upd H N (.tup [.int (i : Nat), x])) fun σ2 H2 => tb { D with nx := Pv (i + 1), ct := Pv (i + 1), bk := D.nx } σ2 H2) (hd : ∀ σ H, Pv xs.length σ H → D.nx σ H) :
    tFor (fun _ H R => R (Ite K a) H) g tb D σ H := for_it walk_enum Pv h0 hl (fun i x σ H H' hi hp hy => by
      obtain ⟨N, y, z, rfl, hN, rfl, e, hx⟩ := hy
      cases e
      exact hs i z σ H N hx hp hN) hd
/-- x not in a list, within a comprehension -/
theorem op_notIn_seqK {X : Cx} {K : PySem.W.Frag} (hK : X.K = K) : OpR X (compareOp .NotIn) (rIn K true) := by
  subst hK
  exact op_notIn_seq
/-- the name is one of the comprehension's own -/
theorem sw_false {elt : Expr} {gs : List Comprehension} {scope : Scope} {pos py : Pos} {y : Str} {l : Nat} {env : Env}
    (ha : (scope.names.any fun (n, k) => n == y && (k == .local || k == .cell)) = true) : swapsWith (.ListComp elt gs scope pos) (some (.Name y py)) l env = pure false := by
  unfold swapsWith
  simp only [ha]
  simp
section
variable {X : Cx} {CX : CXT} {k : Nat} {f C : Addr} {fd : FuncData} {ps ks : List Str} {sp : Sp} {E : XK} {m : Str} {o : Expr} {apos pos : Pos} {kws : List Keyword} {tk : TA} {ta : TE}
/-- the keywords' names the other way round -/
theorem kbn1R {K : PySem.W.Frag} {x qual : Str} {params : Arguments} {body : List Stmt} {scope : Scope} {f : Addr} {fd : FuncData} {ps : List Str} (F : FunD K x qual params body scope [] [] f fd) (ks : List Str)
    (h : ∀ (kV doc pm : Value) (an : Option Addr) (cdv ct : Value) (u : Value) (ws : List Value), ws.length = ks.length → bindArgs (PySem.W.fnOf x qual params body scope .none kV doc pm an cdv ct) ⟨[u], ks.zip ws⟩ = pure (ps.zip (u :: ws.reverse))) :
    KBn K fd ps 1 ks (fun us ws => us ++ ws.reverse) (fun vs zs => vs ++ zs.reverse) := by
  obtain ⟨oc, od, dV, kV, doc, pm, an, cdv, ct, sl, e, lk, hcd, hD, hK⟩ := F.ex
  rcases hD with ⟨_, e2⟩ | ⟨z, _⟩
  · subst e2 e
    refine ⟨fun s us ws Z l1 l2 => ?_, fun r r' => r.append (Rv.vals_rev r')⟩
    obtain ⟨u, rfl⟩ : ∃ u, us = [u] := by
      match us, l1 with
      | [u], _ => exact ⟨u, rfl⟩
    exact .of_eq (h kV doc pm an cdv ct u ws l2)
  · exact absurd rfl z
/-- o.m(k = v, ..) -/
theorem pe_methKw {pl : Sem Bool} (he : PE X o ta) (c : Cls X.K C) (hm : Meth X.K C m f) (F : FnOk X.prog X.w X.K X.mg X.base CX k f fd ps sp) (hr : Room k X.A) (hb : KBn X.K fd ps 1 ks (fun us ws => us ++ ws) (fun vs zs => vs ++ zs)) (hx : Passes CX X E) (hkw : PK X kws tk)
    (hall : (backToKw pos (keywordEach kws X.env)).all (·.1.isSome) = true := by rfl) (hks : (backToKw pos (keywordEach kws X.env)).filterMap (·.1) = ks := by rfl)
    (hpl : ((backTo pos (starEach [] X.env)).any (·.1) || (backToKw pos (keywordEach kws X.env)).any (·.1.isNone)) = false := by rfl)
    (ht : eval (.Call (.Attribute o m apos) [] kws pos) X.env = (do
      let ov ← eval o X.env
      standAt apos.atName
      let (f, first) ← holding [ov] (getMethod ov m pl)
      callWith pos f first (backTo pos (starEach [] X.env)) (backToKw pos (keywordEach kws X.env))) := by rfl) :
    PE X (.Call (.Attribute o m apos) [] kws pos) (tMethKw C m ks.length sp E ta tk) := by
  refine ⟨fun pins s σ H Q I h => ?_⟩
  refine PySem.W.methodCall_KW (pl := pl) (thn (he.run pins s σ H _ I h) fun u s1 ⟨x, H1, I1, rx, a, dx, fs, ex, ea, l, q⟩ => ?_) ht
  subst ex
  obtain rfl : u = Value.ref a := rx
  refine getmeth_ok I1 ea c hm l ?_
  refine PySem.W.callWith_KW0 (first := [.ref a]) (h₀ := X.base) I1.ok.mod.kin hm.kp hall ?_ hpl
  refine thn (hkw.run pos pins s1 σ H1 _ I1 q) ?_
  rintro ws s2 ⟨zs, H2, I2, rz, l2, q2⟩
  refine ⟨I2.kIn, ?_⟩
  rw [hks]
  exact run_fnN (us := [.ref a]) (vs := [.ref a]) F hr hb hx I2 (.cons rfl .nil) rz rfl l2 q2
end
end Sy

set_option Elab.async false
set_option linter.all false
set_option maxRecDepth 100000
set_option maxHeartbeats 4000000
namespace K79
open PySem PySem.Spec PyProof.Rows L2 Rd Dt Dq Pk Ln En Sx Sy
local macro_rules | `(tactic| walk_at "rd") => `(tactic| try simp only [↓Sy.tTupP_, ↓Sy.rTupP_, ↓Sy.rCatP_, ↓Sy.rSlP_, ↓Sy.rDictT_, ↓Sy.tDGet_, ↓Sy.tDGet1_, ↓Sy.tDIn_, ↓Sy.tDNotIn_, ↓Sy.tMeth_, ↓Sy.tMethKw_, ↓Sy.rSortedS_, ↓Sx.rIsT_, ↓En.tFor_enumT, ↓Sy.tFor_enumL, ↓Rv.tMakeKw_, ↓Prp.tProp_, ↓Lo.tBits_, ↓Lo.tJs_n, ↓Lo.tJs_c, ↓Lo.tFmt_, ↓Lo.gFld_, ↓Lo.tMake_, ↓Lo.rOwn_, ↓Rg.tFor_range3, ↓Rg.tLc_range3, ↓Rg.tLstC_, ↓Rg.tLc_rngV, ↓Le.rNeLE_, ↓Le.rEqLE_, ↓Ls.tLc_str, ↓Ls.sDPut_, ↓Rl.rReprL_, ↓Rl.tCallKS_, ↓Ob.tFld_, ↓Ob.sFld_, ↓tVar_, ↓tC_, ↓tM1, ↓tDNewK_, ↓tOp_, ↓tUn_, ↓rI_, ↓rI0_, ↓rU_, ↓eq_ii, ↓ne_ii, ↓eq_ss, ↓ne_ss, ↓eq_bb, ↓ne_bb, ↓tAndV_, ↓tOrV_, ↓tNotV_, ↓tIf_, ↓tTest_, ↓tB_, ↓tAnd_, ↓tOr_, ↓tNot_, ↓tChain_, ↓tNil_, ↓tCons_, ↓tTup_, ↓tLst_, ↓tCB_, ↓tCall_, ↓tSeq_, ↓tNext_, ↓tRet_, ↓tRetN_, ↓tDrop_, ↓tBreak_, ↓tNever_, ↓tIfS_, ↓tAsg_, ↓gName_, ↓gTup_, ↓gCons_, ↓gNil_, ↓gSub_, ↓tPar_, ↓tPar3_, ↓tSl_, ↓tNoPart_, ↓tPart_, ↓tBM_, ↓tFor_range1, ↓tFor_range2, ↓tFor_list, ↓tFor_tup, L2.start, List.headD_cons, List.headD_nil, List.tail_cons, List.map_cons, List.map_nil, List.length_cons, List.length_nil, List.replicate, List.append_nil, List.nil_append, List.cons_append, List.getElem?_cons_zero, List.getElem?_cons_succ, List.set_cons_zero, List.set_cons_succ, Option.some.injEq, V.int.injEq, V.bl.injEq, V.str.injEq, V.ref.injEq, exists_eq_left, exists_eq_left', exists_eq_right, exists_eq, exists_and_left, and_true, true_and, decide_eq_true_eq, Nat.reduceAdd, Nat.reduceSub, Nat.add_zero, Nat.zero_add, List.cons.injEq, Bool.not_eq_true', decide_eq_false_iff_not, eq_self, reduceCtorEq, Bool.false_eq_true, if_true, if_false, ite_true, ite_false, and_self, ↓tLc_range1, ↓tLc_range2, ↓tLc_list, ↓tLc_tup, ↓tYes_, wipe0, wipe1, ↓tCallS_, ↓rIxL_, ↓rIxT_, ↓rSlL_, ↓rCat_, ↓rSetL_, ↓rRep_, ↓rGcd_, ↓tCallK_, ↓gUnl_, ↓tRaise_, decide_true, decide_false, not_true_eq_false, not_false_eq_true, false_and, or_false, false_or, and_false, and_assoc, exists_const, forall_const, forall_eq'])
section
variable {P : Program} {w : World} {K : PySem.W.Frag} {mg : Str → Option Value} {base : Heap}
/-! ### values -/
def spWhole : Sp := fun vs H Q _ => ∃ v : Int, vs = [.int v] ∧ Q (.bl true) H
theorem sc_whole : FnScope ["value"] ["value"] (defScope (top 14)) := ⟨rfl, rfl, rfl, by decide +kernel, rfl, by decide +kernel, by decide +kernel⟩
theorem ok_whole {f : Addr} {fd : FuncData} (T : Tx mg) (F : FD K "is_whole" (top 14) f fd) : FnOk P w K mg base CX0 1 f fd ["value"] spWhole := by
  refine F.ok sc_whole (fun vs H Q E h => ?_) (fun cdv A outer s H vs Q E hr h => ?_)
  · obtain ⟨x, rfl, _⟩ := h
    rfl
  · obtain ⟨x, rfl, k⟩ := h
    refine ⟨_, (pss_one (ps_ret (pe_and (pe_callB call_isi (by rfl) T.b_isinstance (by decide +kernel) (pa_cons (pv 0) (pa_cons (pe_bltn (v := .ty "int") rfl T.b_int (by decide +kernel) rfl) pa_nil))) (pe_one (pe_not (pe_callB call_isi (by rfl) T.b_isinstance (by decide +kernel) (pa_cons (pv 0) (pa_cons (pe_bltn (v := .ty "bool") rfl T.b_bool (by decide +kernel) rfl) pa_nil)))))))), ?_⟩
    exact ⟨_, rfl, _, _, .type "int", .type "int", true, rfl, .ty _, .base (.int _), rfl, _, rfl, _, rfl, _, _, .type "int", .type "bool", false, rfl, .ty _, .base (.int _), rfl, _, rfl, k⟩
def spBetween : Sp := fun vs H Q _ => ∃ v l h : Int, vs = [.int v, .int l, .int h] ∧ Q (.bl (decide (l ≤ v) && decide (v ≤ h))) H
theorem sc_between : FnScope ["value", "low", "high"] ["value", "low", "high"] (defScope (top 15)) := ⟨rfl, rfl, rfl, by decide +kernel, rfl, by decide +kernel, by decide +kernel⟩
theorem ok_between {f : Addr} {fd : FuncData} (T : Tx mg) (F : FD K "is_between" (top 15) f fd) {f1 : Addr} {fd1 : FuncData} (C1 : Cal P w K mg base CX0 1 "is_whole" ["value"] spWhole f1 fd1) : FnOk P w K mg base CX0 2 f fd ["value", "low", "high"] spBetween := by
  obtain ⟨gis_whole, kis_whole, bis_whole, Fis_whole⟩ := C1
  refine F.ok sc_between (fun vs H Q E h => ?_) (fun cdv A outer s H vs Q E hr h => ?_)
  · obtain ⟨_, _, _, rfl, _⟩ := h
    rfl
  · obtain ⟨v, l, h, rfl, k⟩ := h
    have nd := sc_between.nd
    refine ⟨_, (pss_one (ps_ret (pe_and (pe_call Fis_whole (hr.mono (by omega)) rfl gis_whole kis_whole bis_whole .nil pass0 (pa_cons (pv 0) pa_nil)) (pe_and (pe_cmpR op_le (pv 1) (pv 0) (nomark _)) (pe_one (pe_cmpR op_le (pv 0) (pv 2) (nomark _))))))), ?_⟩
    walk_at "rd"
    refine ⟨v, rfl, ?_⟩
    walk_at "rd"
    by_cases c : l ≤ v
    · rw [decide_eq_true c] at k
      rw [if_pos c]
      exact k
    · rw [decide_eq_false c] at k
      rw [if_neg c]
      exact k
def spPlace : Sp := fun vs H Q _ => ∃ v : Int, vs = [.int v] ∧ Q (.bl (decide (0 ≤ v) && decide (v ≤ 999))) H
theorem sc_place : FnScope ["value"] ["value"] (defScope (top 16)) := ⟨rfl, rfl, rfl, by decide +kernel, rfl, by decide +kernel, by decide +kernel⟩
theorem ok_place {f : Addr} {fd : FuncData} (T : Tx mg) (F : FD K "is_place" (top 16) f fd) {f1 : Addr} {fd1 : FuncData} (C1 : Cal P w K mg base CX0 2 "is_between" ["value", "low", "high"] spBetween f1 fd1) : FnOk P w K mg base CX0 3 f fd ["value"] spPlace := by
  obtain ⟨gis_between, kis_between, bis_between, Fis_between⟩ := C1
  refine F.ok sc_place (fun vs H Q E h => ?_) (fun cdv A outer s H vs Q E hr h => ?_)
  · obtain ⟨_, rfl, _⟩ := h
    rfl
  · obtain ⟨v, rfl, k⟩ := h
    have nd := sc_place.nd
    obtain ⟨_, hMP⟩ := T.mp
    refine ⟨_, (pss_one (ps_ret (pe_call Fis_between (hr.mono (by omega)) rfl gis_between kis_between bis_between .nil pass0 (pa_cons (pv 0) (pa_cons pe_int (pa_cons (pe_glob (v := .int 999) rfl hMP ⟨_, rfl⟩) pa_nil)))))), ?_⟩
    walk_at "rd"
    exact ⟨v, 0, 999, rfl, k⟩
theorem let_has {c : Nat} (h1 : 97 ≤ c) (h2 : c ≤ 122) : c ∈ abc.cps.toList := by
  have e : abc.cps.toList = [97, 98, 99, 100, 101, 102, 103, 104, 105, 106, 107, 108, 109, 110, 111, 112, 113, 114, 115, 116, 117, 118, 119, 120, 121, 122] := by decide +kernel
  rw [e]
  simp only [List.mem_cons, List.not_mem_nil, or_false]
  omega
def spLetter : Sp := fun vs H Q _ => ∃ c : Nat, vs = [.str (L1 c)] ∧ 97 ≤ c ∧ c ≤ 122 ∧ Q (.bl true) H
theorem sc_letter : FnScope ["value"] ["value"] (defScope (top 17)) := ⟨rfl, rfl, rfl, by decide +kernel, rfl, by decide +kernel, by decide +kernel⟩
theorem ok_letter {f : Addr} {fd : FuncData} (T : Tx mg) (F : FD K "is_letter" (top 17) f fd) : FnOk P w K mg base CX0 1 f fd ["value"] spLetter := by
  refine F.ok sc_letter (fun vs H Q E h => ?_) (fun cdv A outer s H vs Q E hr h => ?_)
  · obtain ⟨_, rfl, _⟩ := h
    rfl
  · obtain ⟨c, rfl, h1, h2, k⟩ := h
    have nd := sc_letter.nd
    obtain ⟨_, hLET⟩ := T.lets
    refine ⟨_, (pss_one (ps_ret (pe_and (pe_callB call_isi (by rfl) T.b_isinstance (by decide +kernel) (pa_cons (pv 0) (pa_cons (pe_bltn (v := .ty "str") rfl T.b_str (by decide +kernel) rfl) pa_nil))) (pe_and (pe_cmpR op_eq (pe_callB call_len_str (by rfl) T.b_len PySem.boot_len (pa_cons (pv 0) pa_nil)) pe_int (nomark _)) (pe_one (pe_cmpR op_in_sign (pv 0) (pe_glob (v := .str abc) rfl hLET ⟨_, rfl⟩) rfl)))))), ?_⟩
    walk_at "rd"
    refine ⟨_, _, .type "str", .type "str", true, rfl, .ty _, .base (.str _), rfl, _, rfl, ?_⟩
    rw [if_pos rfl]
    have e1 : (L1 c).length = 1 := rfl
    have e2 : ((L1 c).length : Int) = 1 := by rw [e1]; rfl
    refine ⟨by rw [e1]; decide, ?_⟩
    rw [if_pos e2]
    refine ⟨c, rfl, ?_⟩
    rw [show decide (c ∈ abc.cps.toList) = true from decide_eq_true (let_has h1 h2)]
    exact k
def spPair (K : PySem.W.Frag) : Sp := fun vs H Q _ => ∃ (a : Addr) (x y : V), vs = [.ref a] ∧ SqT K H a [x, y] ∧ Q (.bl true) H
theorem sc_pair : FnScope ["value"] ["value"] (defScope (top 18)) := ⟨rfl, rfl, rfl, by decide +kernel, rfl, by decide +kernel, by decide +kernel⟩
theorem ok_pair {f : Addr} {fd : FuncData} (T : Tx mg) (F : FD K "is_pair" (top 18) f fd) : FnOk P w K mg base CX0 1 f fd ["value"] (spPair K) := by
  refine F.ok sc_pair (fun vs H Q E h => ?_) (fun cdv A outer s H vs Q E hr h => ?_)
  · obtain ⟨_, _, _, rfl, _⟩ := h
    rfl
  · obtain ⟨a, x, y, rfl, ha, k⟩ := h
    have nd := sc_pair.nd
    refine ⟨_, (pss_one (ps_ret (pe_and (pe_callB (Sx.call_isT (K := K) rfl) (by rfl) T.b_isinstance (by decide +kernel) (pa_cons (pv 0) (pa_cons (pe_bltn (v := .ty "tuple") rfl T.b_tuple (by decide +kernel) rfl) pa_nil))) (pe_one (pe_cmpR op_eq (pe_callB call_len_seq (by rfl) T.b_len PySem.boot_len (pa_cons (pv 0) pa_nil)) pe_int (nomark _)))))), ?_⟩
    walk_at "rd"
    exact ⟨_, ha, _, .inr ha, k⟩
end
end K79

set_option Elab.async false
set_option linter.all false
set_option maxRecDepth 100000
set_option maxHeartbeats 4000000
namespace K79
open PySem PySem.Spec PyProof.Rows L2 Rd Dt Dq Pk Ln En Sx Sy
local macro_rules | `(tactic| walk_at "rd") => `(tactic| try simp only [↓Sy.tTupP_, ↓Sy.rTupP_, ↓Sy.rCatP_, ↓Sy.rSlP_, ↓Sy.rDictT_, ↓Sy.tDGet_, ↓Sy.tDGet1_, ↓Sy.tDIn_, ↓Sy.tDNotIn_, ↓Sy.tMeth_, ↓Sy.tMethKw_, ↓Sy.rSortedS_, ↓Sx.rIsT_, ↓En.tFor_enumT, ↓Sy.tFor_enumL, ↓Rv.tMakeKw_, ↓Prp.tProp_, ↓Lo.tBits_, ↓Lo.tJs_n, ↓Lo.tJs_c, ↓Lo.tFmt_, ↓Lo.gFld_, ↓Lo.tMake_, ↓Lo.rOwn_, ↓Rg.tFor_range3, ↓Rg.tLc_range3, ↓Rg.tLstC_, ↓Rg.tLc_rngV, ↓Le.rNeLE_, ↓Le.rEqLE_, ↓Ls.tLc_str, ↓Ls.sDPut_, ↓Rl.rReprL_, ↓Rl.tCallKS_, ↓Ob.tFld_, ↓Ob.sFld_, ↓tVar_, ↓tC_, ↓tM1, ↓tDNewK_, ↓tOp_, ↓tUn_, ↓rI_, ↓rI0_, ↓rU_, ↓eq_ii, ↓ne_ii, ↓eq_ss, ↓ne_ss, ↓eq_bb, ↓ne_bb, ↓tAndV_, ↓tOrV_, ↓tNotV_, ↓tIf_, ↓tTest_, ↓tB_, ↓tAnd_, ↓tOr_, ↓tNot_, ↓tChain_, ↓tNil_, ↓tCons_, ↓tTup_, ↓tLst_, ↓tCB_, ↓tCall_, ↓tSeq_, ↓tNext_, ↓tRet_, ↓tRetN_, ↓tDrop_, ↓tBreak_, ↓tNever_, ↓tIfS_, ↓tAsg_, ↓gName_, ↓gTup_, ↓gCons_, ↓gNil_, ↓gSub_, ↓tPar_, ↓tPar3_, ↓tSl_, ↓tNoPart_, ↓tPart_, ↓tBM_, ↓tFor_range1, ↓tFor_range2, ↓tFor_list, ↓tFor_tup, L2.start, List.headD_cons, List.headD_nil, List.tail_cons, List.map_cons, List.map_nil, List.length_cons, List.length_nil, List.replicate, List.append_nil, List.nil_append, List.cons_append, List.getElem?_cons_zero, List.getElem?_cons_succ, List.set_cons_zero, List.set_cons_succ, Option.some.injEq, V.int.injEq, V.bl.injEq, V.str.injEq, V.ref.injEq, exists_eq_left, exists_eq_left', exists_eq_right, exists_eq, exists_and_left, and_true, true_and, decide_eq_true_eq, Nat.reduceAdd, Nat.reduceSub, Nat.add_zero, Nat.zero_add, List.cons.injEq, Bool.not_eq_true', decide_eq_false_iff_not, eq_self, reduceCtorEq, Bool.false_eq_true, if_true, if_false, ite_true, ite_false, and_self, ↓tLc_range1, ↓tLc_range2, ↓tLc_list, ↓tLc_tup, ↓tYes_, wipe0, wipe1, ↓tCallS_, ↓rIxL_, ↓rIxT_, ↓rSlL_, ↓rCat_, ↓rSetL_, ↓rRep_, ↓rGcd_, ↓tCallK_, ↓gUnl_, ↓tRaise_, decide_true, decide_false, not_true_eq_false, not_false_eq_true, false_and, or_false, false_or, and_false, and_assoc, exists_const, forall_const, forall_eq'])
section
variable {P : Program} {w : World} {K : PySem.W.Frag} {mg : Str → Option Value} {base : Heap}
/-! ### names and cells looked at -/
theorem asc_next {ns : List (Nat × Nat)} (h : Asc ns) {i : Nat} {a b : Nat × Nat} (e1 : ns[i]? = some a) (e2 : ns[i + 1]? = some b) : a.1 < b.1 := by
  obtain ⟨h1, rfl⟩ := List.getElem?_eq_some_iff.mp e1
  obtain ⟨h2, rfl⟩ := List.getElem?_eq_some_iff.mp e2
  exact List.pairwise_iff_getElem.mp h i (i + 1) h1 h2 (Nat.lt_succ_self i)
theorem lt_L1 {c d : Nat} (h : c < d) : (L1 c).cps.toList < (L1 d).cps.toList := by
  show [c] < [d]
  exact List.cons_lt_cons_iff.mpr (.inl h)
theorem map_at {α β : Type} {f : α → β} {l : List α} {i : Nat} {y : β} (h : (l.map f)[i]? = some y) : ∃ x, l[i]? = some x ∧ y = f x := by
  rw [List.getElem?_map] at h
  obtain ⟨x, h1, h2⟩ := Option.map_eq_some_iff.mp h
  exact ⟨x, h1, h2.symm⟩
def spNames (K : PySem.W.Frag) : Sp := fun vs H Q _ => ∃ (a : Addr) (ns : List (Nat × Nat)), vs = [.ref a] ∧ PrsAt K H a (ns.map nk) ∧ NmOk ns ∧ Q (.bl true) H
def nmP (H0 : Hp) (a : Addr) (ns : List (Nat × Nat)) (i : Nat) : L2.St → Hp → Prop := fun σ H => H = H0 ∧ ∃ (x : Option V) (l : Str), (∀ n, ns[i]? = some n → l.cps.toList < (L1 n.1).cps.toList) ∧ σ = [some (.ref a), some (.str l), x]
theorem sc_nm : FnScope ["value", "last", "pair"] ["value"] (defScope (top 20)) := ⟨rfl, rfl, rfl, by decide +kernel, rfl, by decide +kernel, by decide +kernel⟩
theorem ok_nm {f : Addr} {fd : FuncData} (T : Tx mg) (F : FD K "are_name_pairs" (top 20) f fd) {f1 f2 f3 : Addr} {fd1 fd2 fd3 : FuncData} (C1 : Cal P w K mg base CX0 1 "is_pair" ["value"] (spPair K) f1 fd1) (C2 : Cal P w K mg base CX0 1 "is_letter" ["value"] spLetter f2 fd2)
    (C3 : Cal P w K mg base CX0 3 "is_place" ["value"] spPlace f3 fd3) : FnOk P w K mg base CX0 4 f fd ["value"] (spNames K) := by
  obtain ⟨gis_pair, kis_pair, bis_pair, Fis_pair⟩ := C1
  obtain ⟨gis_letter, kis_letter, bis_letter, Fis_letter⟩ := C2
  obtain ⟨gis_place, kis_place, bis_place, Fis_place⟩ := C3
  refine F.ok sc_nm (fun vs H Q E h => ?_) (fun cdv A outer s H vs Q E hr h => ?_)
  · obtain ⟨_, _, rfl, _⟩ := h
    rfl
  · obtain ⟨a, ns, rfl, ⟨xs, ha, hp⟩, ok, k⟩ := h
    have nd := sc_nm.nd
    obtain ⟨_, hMN⟩ := T.mn
    have hl := hp.len
    rw [List.length_map] at hl
    refine ⟨_, (pss_cons (ps_if (PW.pt (pw_or (pt_not (pt_val (pe_callB (Sx.call_isT (K := K) rfl) (by rfl) T.b_isinstance (by decide +kernel) (pa_cons (pv 0) (pa_cons (pe_bltn (v := .ty "tuple") rfl T.b_tuple (by decide +kernel) rfl) pa_nil))))) (pw_or1 (pt_not (pt_chain op_le op_le pe_int (pe_callB call_len_seq (by rfl) T.b_len PySem.boot_len (pa_cons (pv 0) pa_nil)) (pe_glob (v := .int 4) rfl hMN ⟨_, rfl⟩)))))) (pss_one (ps_ret pe_bl)) pss_nil)
        (pss_cons (ps_set (i := 1) nd rfl (Or.inl rfl) pe_str)
        (pss_cons (ps_for (passes_of rfl) rfl (pi_tup (pv 0)) (pg_name (i := 2) nd rfl (Or.inl rfl)) (pss_cons (ps_if (PW.pt (pw_or (pt_not (pt_val (pe_call Fis_pair (hr.mono (by omega)) rfl gis_pair kis_pair bis_pair .nil pass0 (pa_cons (pv 2) pa_nil)))) (pw_or (pt_not (pt_val (pe_call Fis_letter (hr.mono (by omega)) rfl gis_letter kis_letter bis_letter .nil pass0 (pa_cons (pe_ix (r := rIxT K) ix_tup (pv 2) pe_int (fun _ _ => rfl)) pa_nil)))) (pw_or (pt_not (pt_val (pe_call Fis_place (hr.mono (by omega)) rfl gis_place kis_place bis_place .nil pass0 (pa_cons (pe_ix (r := rIxT K) ix_tup (pv 2) pe_int (fun _ _ => rfl)) pa_nil)))) (pw_or1 (pt_cmpR op_le_str (pe_ix (r := rIxT K) ix_tup (pv 2) pe_int (fun _ _ => rfl)) (pv 1) (nomark _))))))) (pss_one (ps_ret pe_bl)) pss_nil)
        (pss_one (ps_set (i := 1) nd rfl (Or.inl rfl) (pe_ix (r := rIxT K) ix_tup (pv 2) pe_int (fun _ _ => rfl))))))
        (pss_one (ps_ret pe_bl))))), ?_⟩
    refine sq fun U hU => ?_
    walk_at "rd"
    refine ⟨_, ha.sqt, _, .inr ha.sqt, ?_⟩
    have o1 := ok.1
    have o2 := ok.2.1
    rw [if_pos (by omega), if_neg (by omega)]
    refine hU _ _ ?_
    clear hU
    refine sq fun U hU => ?_
    walk_at "rd"
    refine hU _ _ ?_
    clear hU
    refine sq fun U hU => ?_
    walk_at "rd"
    refine ⟨⟨_, ha.sqt⟩, for_t (K := K) (a := a) (xs := xs) (nmP H a ns) ⟨rfl, none, "", fun n _ => List.nil_lt_cons _ _, rfl⟩ (fun i σ H' _ h => by rw [h.1]; exact ha.sqt) ?_ ?_⟩
    · rintro i x σ H' hi ⟨rfl, x0, l, hlt, rfl⟩
      obtain ⟨kv, b, hkv, rfl, hb⟩ := hp.atV hi
      obtain ⟨n, hn, rfl⟩ := map_at hkv
      obtain ⟨b1, b2, b3⟩ := ok.2.2.1 n (List.mem_of_getElem? hn)
      have hb : SqT K H' b [.str (L1 n.1), .int n.2] := hb
      have lt1 := hlt n hn
      walk_at "rd"
      refine ⟨b, _, _, rfl, hb, true, rfl, ?_⟩
      rw [if_neg (by decide)]
      refine ⟨_, hb, _, rfl, n.1, rfl, b1, b2, true, rfl, ?_⟩
      rw [if_neg (by decide)]
      refine ⟨_, hb, _, rfl, n.2, rfl, true, by rw [decide_eq_true (show (0 : Int) ≤ n.2 by omega), decide_eq_true (show (n.2 : Int) ≤ 999 by omega)]; rfl, ?_⟩
      rw [if_neg (by decide)]
      refine ⟨_, hb, _, rfl, _, rfl, ?_⟩
      rw [if_neg (fun z => z lt1)]
      exact ⟨_, hb, _, rfl, rfl, _, L1 n.1, fun m hm => lt_L1 (asc_next ok.2.2.2 hn hm), rfl⟩
    · rintro σ H' ⟨rfl, x0, l, hlt, rfl⟩
      refine hU _ _ ?_
      walk_at "rd"
      exact k
def spCells (K : PySem.W.Frag) : Sp := fun vs H Q _ => ∃ (a : Addr) (cs : List (Nat × Nat)), vs = [.ref a] ∧ PrsAt K H a (cs.map ck) ∧ ClOk cs ∧ ∀ H', Same H H' → Q .non H'
def clP (H0 : Hp) (a : Addr) (cs : List (Nat × Nat)) (i : Nat) : L2.St → Hp → Prop := fun σ H => Same H0 H ∧ ∃ (l : Nat) (x y : Option V), (∀ c, cs[i]? = some c → l < c.1) ∧ σ = [some (.ref a), some (.int l), x, y]
theorem sc_cl : FnScope ["value", "last", "index", "pair"] ["value"] (defScope (top 21)) := ⟨rfl, rfl, rfl, by decide +kernel, rfl, by decide +kernel, by decide +kernel⟩
theorem ok_cl {f : Addr} {fd : FuncData} (T : Tx mg) (F : FD K "check_cells" (top 21) f fd) {f1 f3 : Addr} {fd1 fd3 : FuncData} (C1 : Cal P w K mg base CX0 1 "is_pair" ["value"] (spPair K) f1 fd1)
    (C3 : Cal P w K mg base CX0 3 "is_place" ["value"] spPlace f3 fd3) : FnOk P w K mg base CX0 4 f fd ["value"] (spCells K) := by
  obtain ⟨gis_pair, kis_pair, bis_pair, Fis_pair⟩ := C1
  obtain ⟨gis_place, kis_place, bis_place, Fis_place⟩ := C3
  refine F.ok sc_cl (fun vs H Q E h => ?_) (fun cdv A outer s H vs Q E hr h => ?_)
  · obtain ⟨_, _, rfl, _⟩ := h
    rfl
  · obtain ⟨a, cs, rfl, ⟨xs, ha, hp⟩, ok, k⟩ := h
    have nd := sc_cl.nd
    obtain ⟨_, hMC⟩ := T.mc
    obtain ⟨_, hEND⟩ := T.en
    have hl := hp.len
    rw [List.length_map] at hl
    refine ⟨_, (pss_cons (ps_if (pt_not (pt_val (pe_callB (Sx.call_isT (K := K) rfl) (by rfl) T.b_isinstance (by decide +kernel) (pa_cons (pv 0) (pa_cons (pe_bltn (v := .ty "tuple") rfl T.b_tuple (by decide +kernel) rfl) pa_nil))))) (pss_one ps_never) pss_nil)
        (pss_cons (ps_set (i := 1) nd rfl (Or.inl rfl) (pe_glob (v := .int 0) rfl hEND ⟨_, rfl⟩))
        (pss_one (ps_for (passes_of rfl) rfl (En.pi_enumT (K := K) rfl rfl T.b_enumerate (pa_cons (pv 0) pa_nil)) (pg_tup rfl (pgs_cons (pg_name (i := 2) nd rfl (Or.inl rfl) (hf := Or.inr rfl)) (pgs_cons (pg_name (i := 3) nd rfl (Or.inl rfl) (hf := Or.inr rfl)) pgs_nil))) (pss_cons (ps_if (PW.pt (pw_or (pt_cmpR op_eq (pv 2) (pe_glob (v := .int 500) rfl hMC ⟨_, rfl⟩) (nomark _)) (pw_or (pt_not (pt_val (pe_call Fis_pair (hr.mono (by omega)) rfl gis_pair kis_pair bis_pair .nil pass0 (pa_cons (pv 3) pa_nil)))) (pw_or (pt_not (pt_val (pe_call Fis_place (hr.mono (by omega)) rfl gis_place kis_place bis_place .nil pass0 (pa_cons (pe_ix (r := rIxT K) ix_tup (pv 3) pe_int (fun _ _ => rfl)) pa_nil)))) (pw_or1 (pt_not (pt_val (pe_call Fis_place (hr.mono (by omega)) rfl gis_place kis_place bis_place .nil pass0 (pa_cons (pe_ix (r := rIxT K) ix_tup (pv 3) pe_int (fun _ _ => rfl)) pa_nil))))))))) (pss_one ps_never) pss_nil)
        (pss_cons (ps_if (pt_cmpR op_le (pe_ix (r := rIxT K) ix_tup (pv 3) pe_int (fun _ _ => rfl)) (pv 1) (nomark _)) (pss_one ps_never) pss_nil)
        (pss_one (ps_set (i := 1) nd rfl (Or.inl rfl) (pe_ix (r := rIxT K) ix_tup (pv 3) pe_int (fun _ _ => rfl)))))))))), ?_⟩
    refine sq fun U hU => ?_
    walk_at "rd"
    refine ⟨_, ha.sqt, ?_⟩
    refine hU _ _ ?_
    clear hU
    refine sq fun U hU => ?_
    walk_at "rd"
    refine hU _ _ ?_
    clear hU
    walk_at "rd"
    refine ⟨_, ha.sqt, for_enumT (clP H a cs) ⟨fun _ _ e => e, 0, none, none, fun c hc => by have := ok.2.1 c (List.mem_of_getElem? hc); omega, rfl⟩ (fun i σ H' _ h => sqt_up h.1 ha.sqt) ?_ ?_⟩
    · rintro i x σ H' N hi ⟨hs, l, x1, x2, hlt, rfl⟩ hN
      obtain ⟨kv, b, hkv, rfl, hb⟩ := (hp.up hs).atV hi
      have hb2 : SqT K (upd H' N (.tup [.int (i : Nat), .ref b])) b [kV kv.1, kv.2] := sqt_up (same_new hN) hb
      have hN2 : SqT K (upd H' N (.tup [.int (i : Nat), .ref b])) N [.int (i : Nat), .ref b] := SqT.of upd_same
      have s2 : Same H (upd H' N (.tup [.int (i : Nat), .ref b])) := fun c o e => same_new hN _ _ (hs _ _ e)
      generalize upd H' N (.tup [.int (i : Nat), .ref b]) = H2 at hb2 hN2 s2 ⊢
      walk_at "rd"
      obtain ⟨n, hn, rfl⟩ := map_at hkv
      obtain ⟨b1, b2, b3⟩ := ok.2.1 n (List.mem_of_getElem? hn)
      have hb2 : SqT K H2 b [.int n.1, .int n.2] := hb2
      have lt1 := hlt n hn
      have il := (List.getElem?_eq_some_iff.mp hn).1
      have o1 := ok.1
      refine ⟨_, hN2, rfl, _, _, rfl, _, _, rfl, rfl, ?_⟩
      walk_at "rd"
      rw [if_neg (by omega)]
      refine ⟨b, _, _, rfl, hb2, true, rfl, ?_⟩
      rw [if_neg (by decide)]
      refine ⟨_, hb2, _, rfl, n.1, rfl, true, by rw [decide_eq_true (show (0 : Int) ≤ n.1 by omega), decide_eq_true (show (n.1 : Int) ≤ 999 by omega)]; rfl, ?_⟩
      rw [if_neg (by decide)]
      refine ⟨_, hb2, _, rfl, n.2, rfl, true, by rw [decide_eq_true (show (0 : Int) ≤ n.2 by omega), decide_eq_true (show (n.2 : Int) ≤ 999 by omega)]; rfl, ?_⟩
      rw [if_neg (by decide)]
      refine ⟨_, hb2, _, rfl, _, rfl, ?_⟩
      rw [if_neg (by omega)]
      exact ⟨_, hb2, _, rfl, s2, n.1, _, _, fun m hm => asc_next ok.2.2 hn hm, rfl⟩
    · rintro σ H' ⟨hs, l, x1, x2, hlt, rfl⟩
      exact k _ hs
end
end K79

set_option Elab.async false
set_option linter.all false
set_option maxRecDepth 100000
set_option maxHeartbeats 4000000
namespace K79
open PySem PySem.Spec PyProof.Rows L2 Rd Dt Dq Pk Ln En Sx Sy
local macro_rules | `(tactic| walk_at "rd") => `(tactic| try simp only [↓Sy.tTupP_, ↓Sy.rTupP_, ↓Sy.rCatP_, ↓Sy.rSlP_, ↓Sy.rDictT_, ↓Sy.tDGet_, ↓Sy.tDGet1_, ↓Sy.tDIn_, ↓Sy.tDNotIn_, ↓Sy.tMeth_, ↓Sy.tMethKw_, ↓Sy.rSortedS_, ↓Sx.rIsT_, ↓En.tFor_enumT, ↓Sy.tFor_enumL, ↓Rv.tMakeKw_, ↓Prp.tProp_, ↓Lo.tBits_, ↓Lo.tJs_n, ↓Lo.tJs_c, ↓Lo.tFmt_, ↓Lo.gFld_, ↓Lo.tMake_, ↓Lo.rOwn_, ↓Rg.tFor_range3, ↓Rg.tLc_range3, ↓Rg.tLstC_, ↓Rg.tLc_rngV, ↓Le.rNeLE_, ↓Le.rEqLE_, ↓Ls.tLc_str, ↓Ls.sDPut_, ↓Rl.rReprL_, ↓Rl.tCallKS_, ↓Ob.tFld_, ↓Ob.sFld_, ↓tVar_, ↓tC_, ↓tM1, ↓tDNewK_, ↓tOp_, ↓tUn_, ↓rI_, ↓rI0_, ↓rU_, ↓eq_ii, ↓ne_ii, ↓eq_ss, ↓ne_ss, ↓eq_bb, ↓ne_bb, ↓tAndV_, ↓tOrV_, ↓tNotV_, ↓tIf_, ↓tTest_, ↓tB_, ↓tAnd_, ↓tOr_, ↓tNot_, ↓tChain_, ↓tNil_, ↓tCons_, ↓tTup_, ↓tLst_, ↓tCB_, ↓tCall_, ↓tSeq_, ↓tNext_, ↓tRet_, ↓tRetN_, ↓tDrop_, ↓tBreak_, ↓tNever_, ↓tIfS_, ↓tAsg_, ↓gName_, ↓gTup_, ↓gCons_, ↓gNil_, ↓gSub_, ↓tPar_, ↓tPar3_, ↓tSl_, ↓tNoPart_, ↓tPart_, ↓tBM_, ↓tFor_range1, ↓tFor_range2, ↓tFor_list, ↓tFor_tup, L2.start, List.headD_cons, List.headD_nil, List.tail_cons, List.map_cons, List.map_nil, List.length_cons, List.length_nil, List.replicate, List.append_nil, List.nil_append, List.cons_append, List.getElem?_cons_zero, List.getElem?_cons_succ, List.set_cons_zero, List.set_cons_succ, Option.some.injEq, V.int.injEq, V.bl.injEq, V.str.injEq, V.ref.injEq, exists_eq_left, exists_eq_left', exists_eq_right, exists_eq, exists_and_left, and_true, true_and, decide_eq_true_eq, Nat.reduceAdd, Nat.reduceSub, Nat.add_zero, Nat.zero_add, List.cons.injEq, Bool.not_eq_true', decide_eq_false_iff_not, eq_self, reduceCtorEq, Bool.false_eq_true, if_true, if_false, ite_true, ite_false, and_self, ↓tLc_range1, ↓tLc_range2, ↓tLc_list, ↓tLc_tup, ↓tYes_, wipe0, wipe1, ↓tCallS_, ↓rIxL_, ↓rIxT_, ↓rSlL_, ↓rCat_, ↓rSetL_, ↓rRep_, ↓rGcd_, ↓tCallK_, ↓gUnl_, ↓tRaise_, decide_true, decide_false, not_true_eq_false, not_false_eq_true, false_and, or_false, false_or, and_false, and_assoc, exists_const, forall_const, forall_eq'])
section
variable {P : Program} {w : World} {K : PySem.W.Frag} {mg : Str → Option Value} {base : Heap}
abbrev FM (K : PySem.W.Frag) (x q : Str) (st : Stmt) (f : Addr) (fd : FuncData) : Prop := FunD K x q (defArgs st) (defBody st) (defScope st) [] [] f fd
/-! ### stores -/
def sf (an ac dp da : Addr) (lt : Str) : List (Str × V) := [("names", .ref an), ("cells", .ref ac), ("places", .ref dp), ("arrows", .ref da), ("letters", .str lt)]
theorem sf_n (an ac dp da : Addr) (lt : Str) : (sf an ac dp da lt).lookup ("names" : Str) = some (.ref an) := rfl
theorem sf_c (an ac dp da : Addr) (lt : Str) : (sf an ac dp da lt).lookup ("cells" : Str) = some (.ref ac) := rfl
theorem sf_p (an ac dp da : Addr) (lt : Str) : (sf an ac dp da lt).lookup ("places" : Str) = some (.ref dp) := rfl
theorem sf_a (an ac dp da : Addr) (lt : Str) : (sf an ac dp da lt).lookup ("arrows" : Str) = some (.ref da) := rfl
theorem sf_l (an ac dp da : Addr) (lt : Str) : (sf an ac dp da lt).lookup ("letters" : Str) = some (.str lt) := rfl
/-- an instance of Store with these names and cells -/
def StA (K : PySem.W.Frag) (C : Addr) (H : Hp) (r : Addr) (ns cs : List (Nat × Nat)) : Prop := ∃ (dx an ac dp da : Addr), H r = some (.ins C dx (sf an ac dp da (lettT ns))) ∧ PrsAt K H an (ns.map nk) ∧ PrsAt K H ac (cs.map ck) ∧
  H dp = some (.dK (ns.map nk)) ∧ H da = some (.dK (cs.map ck)) ∧ NmOk ns ∧ ClOk cs
theorem StA.up {C : Addr} {H H' : Hp} (s : Same H H') {r : Addr} {ns cs : List (Nat × Nat)} (h : StA K C H r ns cs) : StA K C H' r ns cs := by
  obtain ⟨dx, an, ac, dp, da, h1, h2, h3, h4, h5, h6, h7⟩ := h
  exact ⟨dx, an, ac, dp, da, s _ _ h1, h2.up s, h3.up s, s _ _ h4, s _ _ h5, h6, h7⟩
structure StB (K : PySem.W.Frag) (C : Addr) : Prop where
  cl : Cls K C
  nN : NoAttr K C "names"
  nC : NoAttr K C "cells"
  nP : NoAttr K C "places"
  nA : NoAttr K C "arrows"
  nL : NoAttr K C "letters"
structure StM (K : PySem.W.Frag) (mg : Str → Option Value) (C f : Addr) : Prop where
  own : Lo.OwnC K C
  mkr : Mk K C f
  g : mg "Store" = some (.ref C)
def spInit (K : PySem.W.Frag) (C : Addr) : Sp := fun vs H Q _ => ∃ (r dx an ac : Addr) (ns cs : List (Nat × Nat)), vs = [.ref r, .ref an, .ref ac] ∧ H r = some (.ins C dx []) ∧ PrsAt K H an (ns.map nk) ∧ PrsAt K H ac (cs.map ck) ∧ NmOk ns ∧ ClOk cs ∧
  ∀ H', But r H H' → StA K C H' r ns cs → Q .non H'
theorem ins_no {C dx : Addr} {fs : List (Str × V)} (xs : List V) : HO.ins C dx fs ≠ .tup xs ∧ ∀ ob, HO.ins C dx fs ≠ .frz ob (.tup xs) := ⟨fun z => (by cases z), fun _ z => (by cases z)⟩
def inP (H : Hp) (ns : List (Nat × Nat)) (D : Addr) (j : Nat) (H' : Hp) : Prop := Same H H' ∧ H' D = some (.lst (((ns.take j).map fun n => L1 n.1).map V.str))
theorem sc_in : FnScope ["self", "names", "cells", "letter", "place"] ["self", "names", "cells"] (defScope (inClass (top 22) 0)) := ⟨rfl, rfl, rfl, by decide +kernel, rfl, by decide +kernel, by decide +kernel⟩
theorem ok_in {f C : Addr} {fd : FuncData} {q : Str} (T : Tx mg) (W : StB K C) (F : FM K "__init__" q (inClass (top 22) 0) f fd) {f1 f2 : Addr} {fd1 fd2 : FuncData} (C1 : Cal P w K mg base CX0 4 "are_name_pairs" ["value"] (spNames K) f1 fd1)
    (C2 : Cal P w K mg base CX0 4 "check_cells" ["value"] (spCells K) f2 fd2) : FnOk P w K mg base CX0 5 f fd ["self", "names", "cells"] (spInit K C) := by
  obtain ⟨gare_name_pairs, kare_name_pairs, bare_name_pairs, Fare_name_pairs⟩ := C1
  obtain ⟨gcheck_cells, kcheck_cells, bcheck_cells, Fcheck_cells⟩ := C2
  refine F.ok sc_in (fun vs H Q E h => ?_) (fun cdv A outer s H vs Q E hr h => ?_)
  · obtain ⟨_, _, _, _, _, _, rfl, _⟩ := h
    rfl
  · obtain ⟨r, dx, an, ac, ns, cs, rfl, hr0, hn, hc, okn, okc, k⟩ := h
    have nd := sc_in.nd
    refine ⟨_, (pss_cons (ps_if (pt_not (pt_val (pe_call Fare_name_pairs (hr.mono (by omega)) rfl gare_name_pairs kare_name_pairs bare_name_pairs .nil pass0 (pa_cons (pv 1) pa_nil)))) (pss_one ps_never) pss_nil)
        (pss_cons (ps_expr (pe_call Fcheck_cells (hr.mono (by omega)) rfl gcheck_cells kcheck_cells bcheck_cells .nil pass0 (pa_cons (pv 2) pa_nil)))
        (pss_cons (ps_fld (pv 0) (pv 1) rfl)
        (pss_cons (ps_fld (pv 0) (pv 2) rfl)
        (pss_cons (ps_fld (pv 0) (pe_callTy (En.call_dictT (K := K) rfl rfl) (by rfl) T.b_dict (by decide +kernel) (pa_cons (pv 1) pa_nil)) rfl)
        (pss_cons (ps_fld (pv 0) (pe_callTy (En.call_dictT (K := K) rfl rfl) (by rfl) T.b_dict (by decide +kernel) (pa_cons (pv 2) pa_nil)) rfl)
        (pss_one (ps_fld (pv 0) (pe_join pe_str (pe_lc (own := [("letter", 3), ("place", 4)]) rfl nd (pi_tup (pv 1)) (blkOk_by (N := ["self", "names", "cells", "letter", "place"]) (sc := defScope (inClass (top 22) 0)) (by decide +kernel)) (fun _ _ _ _ _ => (pg_tupK (K := K) (n := 2) rfl rfl (pgs_cons (pg_name (i := 3) nd rfl (Or.inl rfl) (hf := Or.inr rfl)) (pgs_cons (pg_name (i := 4) nd rfl (Or.inl rfl) (hf := Or.inr rfl)) pgs_nil)) rfl rfl)) (fun _ _ _ _ _ => pts_nil) (fun _ _ _ _ _ => (pv 3)))) rfl)))))))), ?_⟩
    refine sq fun U hU => ?_
    walk_at "rd"
    refine ⟨an, ns, rfl, hn, okn, true, rfl, ?_⟩
    rw [if_neg (by decide)]
    refine hU _ _ ?_
    clear hU
    refine sq fun U hU => ?_
    walk_at "rd"
    refine ⟨ac, cs, rfl, hc, okc, fun H1 s1 => hU _ _ ?_⟩
    clear hU
    have hr1 := s1 _ _ hr0
    have hn1 := hn.up s1
    have hc1 := hc.up s1
    refine sq fun U hU => ?_
    walk_at "rd"
    refine ⟨C, dx, [], ⟨hr1, W.cl, W.nN, by decide⟩, hU _ _ ?_⟩
    clear hU
    have b2 : But r H1 (upd H1 r (.ins C dx (putF (Str.ofString "names") (.ref an) []))) := But.put
    have hr2 : upd H1 r (.ins C dx (putF (Str.ofString "names") (.ref an) [])) r = some (.ins C dx [("names", .ref an)]) := upd_same
    generalize upd H1 r (.ins C dx (putF (Str.ofString "names") (.ref an) [])) = H2 at b2 hr2 ⊢
    have hn2 := hn1.but b2 hr1 ins_no
    have hc2 := hc1.but b2 hr1 ins_no
    refine sq fun U hU => ?_
    walk_at "rd"
    refine ⟨C, dx, _, ⟨hr2, W.cl, W.nC, show 1 < 1000 by decide⟩, hU _ _ ?_⟩
    clear hU
    have b3 : But r H2 (upd H2 r (.ins C dx (putF (Str.ofString "cells") (.ref ac) [("names", .ref an)]))) := But.put
    have hr3 : upd H2 r (.ins C dx (putF (Str.ofString "cells") (.ref ac) [("names", .ref an)])) r = some (.ins C dx [("names", .ref an), ("cells", .ref ac)]) := upd_same
    generalize upd H2 r (.ins C dx (putF (Str.ofString "cells") (.ref ac) [("names", .ref an)])) = H3 at b3 hr3 ⊢
    have hn3 := hn2.but b3 hr2 ins_no
    have hc3 := hc2.but b3 hr2 ins_no
    have b13 := b2.trans b3
    clear b2 b3 hr2 hn2 hc2
    refine sq fun U hU => ?_
    walk_at "rd"
    obtain ⟨xs, pl, prs⟩ := hn3
    obtain ⟨ps, rfl, pp⟩ := prs.refs
    refine ⟨ps, pl, _, pp, fun dp hdp => ⟨C, dx, [("names", .ref an), ("cells", .ref ac)], ⟨by rw [upd_ne (ne_of_none hr3 hdp)]; exact hr3, W.cl, W.nP, show 2 < 1000 by decide⟩, hU _ _ ?_⟩⟩
    clear hU
    rw [merge_n okn.2.2.2]
    have ndp : dp ≠ r := fun z => by rw [z, hr3] at hdp; cases hdp
    have b4 : But r H3 (upd (upd H3 dp (.dK (ns.map nk))) r (.ins C dx (putF (Str.ofString "places") (.ref dp) [("names", .ref an), ("cells", .ref ac)]))) := fun c o n e => by rw [upd_ne n, upd_ne (ne_of_none e hdp)]; exact e
    have hr4 : upd (upd H3 dp (.dK (ns.map nk))) r (.ins C dx (putF (Str.ofString "places") (.ref dp) [("names", .ref an), ("cells", .ref ac)])) r = some (.ins C dx [("names", .ref an), ("cells", .ref ac), ("places", .ref dp)]) := upd_same
    have hd4 : upd (upd H3 dp (.dK (ns.map nk))) r (.ins C dx (putF (Str.ofString "places") (.ref dp) [("names", .ref an), ("cells", .ref ac)])) dp = some (.dK (ns.map nk)) := by rw [upd_ne ndp, upd_same]
    generalize upd (upd H3 dp (.dK (ns.map nk))) r (.ins C dx (putF (Str.ofString "places") (.ref dp) [("names", .ref an), ("cells", .ref ac)])) = H4 at b4 hr4 hd4 ⊢
    have hn4 : PrsAt K H4 an (ns.map nk) := PrsAt.but b4 hr3 ins_no ⟨_, pl, prs⟩
    have hc4 := hc3.but b4 hr3 ins_no
    clear pl prs pp
    refine sq fun U hU => ?_
    walk_at "rd"
    obtain ⟨xs2, pl2, prs2⟩ := hc4
    obtain ⟨ps2, rfl, pp2⟩ := prs2.refs
    refine ⟨ps2, pl2, _, pp2, fun da hda => ⟨C, dx, [("names", .ref an), ("cells", .ref ac), ("places", .ref dp)], ⟨by rw [upd_ne (ne_of_none hr4 hda)]; exact hr4, W.cl, W.nA, show 3 < 1000 by decide⟩, hU _ _ ?_⟩⟩
    clear hU
    rw [merge_c okc.2.2]
    have nda : da ≠ r := fun z => by rw [z, hr4] at hda; cases hda
    have b5 : But r H4 (upd (upd H4 da (.dK (cs.map ck))) r (.ins C dx (putF (Str.ofString "arrows") (.ref da) [("names", .ref an), ("cells", .ref ac), ("places", .ref dp)]))) := fun c o n e => by rw [upd_ne n, upd_ne (ne_of_none e hda)]; exact e
    have hr5 : upd (upd H4 da (.dK (cs.map ck))) r (.ins C dx (putF (Str.ofString "arrows") (.ref da) [("names", .ref an), ("cells", .ref ac), ("places", .ref dp)])) r = some (.ins C dx [("names", .ref an), ("cells", .ref ac), ("places", .ref dp), ("arrows", .ref da)]) := upd_same
    have he5 : upd (upd H4 da (.dK (cs.map ck))) r (.ins C dx (putF (Str.ofString "arrows") (.ref da) [("names", .ref an), ("cells", .ref ac), ("places", .ref dp)])) da = some (.dK (cs.map ck)) := by rw [upd_ne nda, upd_same]
    generalize upd (upd H4 da (.dK (cs.map ck))) r (.ins C dx (putF (Str.ofString "arrows") (.ref da) [("names", .ref an), ("cells", .ref ac), ("places", .ref dp)])) = H5 at b5 hr5 he5 ⊢
    have hn5 : PrsAt K H5 an (ns.map nk) := hn4.but b5 hr4 ins_no
    have hc5 : PrsAt K H5 ac (cs.map ck) := PrsAt.but b5 hr4 ins_no ⟨_, pl2, prs2⟩
    have hd5 := b5 _ _ ndp hd4
    clear pl2 prs2 pp2
    walk_at "rd"
    obtain ⟨xs, pl, prs⟩ := hn5
    have hl := prs.len
    rw [List.length_map] at hl
    refine ⟨⟨_, rfl⟩, ⟨_, pl.sqt⟩, lc_t (xs := xs) (inP H5 ns) fun D hD => ⟨⟨same_new hD, upd_same⟩, fun j H6 _ hP => sqt_up hP.1 pl.sqt, ?_, ?_⟩⟩
    · rintro j y H6 hy ⟨hs, hL⟩
      obtain ⟨kv, b, hkv, rfl, eb⟩ := (prs.up hs).atV hy
      obtain ⟨n, hn, rfl⟩ := map_at hkv
      have eb : SqT K H6 b [.str (L1 n.1), .int n.2] := eb
      unfold Lturn
      walk_at "rd"
      have jl : j < ns.length := (List.getElem?_eq_some_iff.mp hn).1
      have o2 := okn.2.1
      refine ⟨_, eb, rfl, _, _, rfl, _, _, rfl, rfl, _, hL, ?_, fun c o e => ?_, ?_⟩
      · rw [List.length_map, List.length_map]
        have : (List.take j ns).length ≤ ns.length := List.length_take_le' _ _
        have zl : (1000000 : Nat) ≤ sizeLine := line_big
        omega
      · rw [upd_ne (ne_of_none e hD)]; exact hs c o e
      · rw [upd_same, List.take_succ, hn, List.map_append, List.map_append]; rfl
    · rintro H6 ⟨hs, hL⟩
      rw [hl, List.take_length] at hL
      refine ⟨D, rfl, _, .inl (SqL.of hL), ?_, C, dx, _, ⟨hs _ _ hr5, W.cl, W.nL, show 4 < 1000 by decide⟩, k _ ?_ ?_⟩
      · have h2 := sum_le (fun s : Str => s.length) 1 (ns.map fun n => L1 n.1) (fun s hs' => by
          obtain ⟨n, _, rfl⟩ := List.mem_map.mp hs'
          exact Nat.le_refl _)
        rw [List.length_map] at h2
        have e1 : (Str.ofString "").length = 0 := by decide
        have o2 := okn.2.1
        rw [e1]
        omega
      · intro c o n e
        rw [upd_ne n]
        exact hs _ _ (b5 _ _ n (b4 _ _ n (b13 _ _ n (s1 _ _ e))))
      · have nr : ∀ c o, H6 c = some o → (∀ fs, o ≠ .ins C dx fs) → c ≠ r := fun c o e n z => by
          rw [z, hs _ _ hr5] at e
          exact n _ (Option.some.inj e).symm
        have bb : But r H6 (upd H6 r (.ins C dx (sf an ac dp da (lettT ns)))) := But.put
        exact ⟨dx, an, ac, dp, da, upd_same, PrsAt.but bb (hs _ _ hr5) ins_no (PrsAt.up hs ⟨_, pl, prs⟩), (hc5.up hs).but bb (hs _ _ hr5) ins_no, bb _ _ ndp (hs _ _ hd5), bb _ _ nda (hs _ _ he5), okn, okc⟩
end
end K79

set_option Elab.async false
set_option linter.all false
set_option maxRecDepth 100000
set_option maxHeartbeats 4000000
namespace K79
open PySem PySem.Spec PyProof.Rows L2 Rd Dt Dq Pk Ln En Sx Sy
local macro_rules | `(tactic| walk_at "rd") => `(tactic| try simp only [↓Sy.tTupP_, ↓Sy.rTupP_, ↓Sy.rCatP_, ↓Sy.rSlP_, ↓Sy.rDictT_, ↓Sy.tDGet_, ↓Sy.tDGet1_, ↓Sy.tDIn_, ↓Sy.tDNotIn_, ↓Sy.tMeth_, ↓Sy.tMethKw_, ↓Sy.rSortedS_, ↓Sx.rIsT_, ↓En.tFor_enumT, ↓Sy.tFor_enumL, ↓Rv.tMakeKw_, ↓Prp.tProp_, ↓Lo.tBits_, ↓Lo.tJs_n, ↓Lo.tJs_c, ↓Lo.tFmt_, ↓Lo.gFld_, ↓Lo.tMake_, ↓Lo.rOwn_, ↓Rg.tFor_range3, ↓Rg.tLc_range3, ↓Rg.tLstC_, ↓Rg.tLc_rngV, ↓Le.rNeLE_, ↓Le.rEqLE_, ↓Ls.tLc_str, ↓Ls.sDPut_, ↓Rl.rReprL_, ↓Rl.tCallKS_, ↓Ob.tFld_, ↓Ob.sFld_, ↓tVar_, ↓tC_, ↓tM1, ↓tDNewK_, ↓tOp_, ↓tUn_, ↓rI_, ↓rI0_, ↓rU_, ↓eq_ii, ↓ne_ii, ↓eq_ss, ↓ne_ss, ↓eq_bb, ↓ne_bb, ↓tAndV_, ↓tOrV_, ↓tNotV_, ↓tIf_, ↓tTest_, ↓tB_, ↓tAnd_, ↓tOr_, ↓tNot_, ↓tChain_, ↓tNil_, ↓tCons_, ↓tTup_, ↓tLst_, ↓tCB_, ↓tCall_, ↓tSeq_, ↓tNext_, ↓tRet_, ↓tRetN_, ↓tDrop_, ↓tBreak_, ↓tNever_, ↓tIfS_, ↓tAsg_, ↓gName_, ↓gTup_, ↓gCons_, ↓gNil_, ↓gSub_, ↓tPar_, ↓tPar3_, ↓tSl_, ↓tNoPart_, ↓tPart_, ↓tBM_, ↓tFor_range1, ↓tFor_range2, ↓tFor_list, ↓tFor_tup, L2.start, List.headD_cons, List.headD_nil, List.tail_cons, List.map_cons, List.map_nil, List.length_cons, List.length_nil, List.replicate, List.append_nil, List.nil_append, List.cons_append, List.getElem?_cons_zero, List.getElem?_cons_succ, List.set_cons_zero, List.set_cons_succ, Option.some.injEq, V.int.injEq, V.bl.injEq, V.str.injEq, V.ref.injEq, exists_eq_left, exists_eq_left', exists_eq_right, exists_eq, exists_and_left, and_true, true_and, decide_eq_true_eq, Nat.reduceAdd, Nat.reduceSub, Nat.add_zero, Nat.zero_add, List.cons.injEq, Bool.not_eq_true', decide_eq_false_iff_not, eq_self, reduceCtorEq, Bool.false_eq_true, if_true, if_false, ite_true, ite_false, and_self, ↓tLc_range1, ↓tLc_range2, ↓tLc_list, ↓tLc_tup, ↓tYes_, wipe0, wipe1, ↓tCallS_, ↓rIxL_, ↓rIxT_, ↓rSlL_, ↓rCat_, ↓rSetL_, ↓rRep_, ↓rGcd_, ↓tCallK_, ↓gUnl_, ↓tRaise_, decide_true, decide_false, not_true_eq_false, not_false_eq_true, false_and, or_false, false_or, and_false, and_assoc, exists_const, forall_const, forall_eq'])
section
variable {P : Program} {w : World} {K : PySem.W.Frag} {mg : Str → Option Value} {base : Heap}
/-! ### what a store tells -/
theorem StA.fa {C : Addr} (W : StB K C) {H : Hp} {r dx an ac dp da : Addr} {lt : Str} (h : H r = some (.ins C dx (sf an ac dp da lt))) :
    Ob.FA K H r "names" (.ref an) ∧ Ob.FA K H r "cells" (.ref ac) ∧ Ob.FA K H r "places" (.ref dp) ∧ Ob.FA K H r "arrows" (.ref da) ∧ Ob.FA K H r "letters" (.str lt) :=
  ⟨⟨C, dx, _, h, W.cl, W.nN, sf_n _ _ _ _ _⟩, ⟨C, dx, _, h, W.cl, W.nC, sf_c _ _ _ _ _⟩, ⟨C, dx, _, h, W.cl, W.nP, sf_p _ _ _ _ _⟩, ⟨C, dx, _, h, W.cl, W.nA, sf_a _ _ _ _ _⟩, ⟨C, dx, _, h, W.cl, W.nL, sf_l _ _ _ _ _⟩⟩
theorem Asc.look {ns : List (Nat × Nat)} (h : Asc ns) {n : Nat × Nat} (hn : n ∈ ns) : look ns n.1 = some n.2 := by
  unfold Sx.look
  induction ns with
  | nil => cases hn
  | cons x ns ih =>
    unfold Asc at h
    rw [List.pairwise_cons] at h
    rw [List.find?_cons]
    rcases List.mem_cons.mp hn with rfl | hn
    · rw [decide_eq_true rfl]; rfl
    · have := h.1 n hn
      rw [decide_eq_false (by omega)]
      exact ih h.2 hn
/-- at -/
def spAt (K : PySem.W.Frag) (C : Addr) : Sp := fun vs H Q _ => ∃ (r : Addr) (ns cs : List (Nat × Nat)) (n : Nat × Nat), vs = [.ref r, .str (L1 n.1)] ∧ StA K C H r ns cs ∧ n ∈ ns ∧ Q (.int n.2) H
theorem sc_at : FnScope ["self", "letter"] ["self", "letter"] (defScope (inClass (top 22) 3)) := ⟨rfl, rfl, rfl, by decide +kernel, rfl, by decide +kernel, by decide +kernel⟩
theorem ok_at {f C : Addr} {fd : FuncData} {q : Str} (T : Tx mg) (W : StB K C) (F : FM K "at" q (inClass (top 22) 3) f fd) {f1 : Addr} {fd1 : FuncData} (C1 : Cal P w K mg base CX0 1 "is_letter" ["value"] spLetter f1 fd1) : FnOk P w K mg base CX0 2 f fd ["self", "letter"] (spAt K C) := by
  obtain ⟨gis_letter, kis_letter, bis_letter, Fis_letter⟩ := C1
  refine F.ok sc_at (fun vs H Q E h => ?_) (fun cdv A outer s H vs Q E hr h => ?_)
  · obtain ⟨_, _, _, _, rfl, _⟩ := h
    rfl
  · obtain ⟨r, ns, cs, n, rfl, ⟨dx, an, ac, dp, da, hr0, hn, hc, hp, ha, okn, okc⟩, hm, k⟩ := h
    have nd := sc_at.nd
    obtain ⟨b1, b2, b3⟩ := okn.2.2.1 n hm
    obtain ⟨fn, fc, fp, fa, fl⟩ := StA.fa W hr0
    have hg : DGet H dp (.str (L1 n.1)) (some (.int n.2)) := by
      have := DGet.k (k := Sum.inr (L1 n.1)) hp
      rw [val_n, Asc.look okn.2.2.2 hm] at this
      exact this
    refine ⟨_, (pss_cons (ps_if (PW.pt (pw_or (pt_not (pt_val (pe_call Fis_letter (hr.mono (by omega)) rfl gis_letter kis_letter bis_letter .nil pass0 (pa_cons (pv 1) pa_nil)))) (pw_or1 (pt_cmp (pc_dnotin (hu_of hr) (pv 1) (Ob.pe_fldK (K := K) rfl (pv 0) rfl)))))) (pss_one ps_never) pss_nil)
        (pss_one (ps_ret (pe_dget (hu_of hr) (Ob.pe_fldK (K := K) rfl (pv 0) rfl) (pv 1) (fun _ _ => rfl))))), ?_⟩
    refine sq fun U hU => ?_
    walk_at "rd"
    refine ⟨n.1, rfl, b1, b2, true, rfl, ?_⟩
    rw [if_neg (by decide)]
    refine ⟨_, fp, dp, rfl, _, hg, ?_⟩
    rw [if_neg (by simp)]
    refine hU _ _ ?_
    walk_at "rd"
    exact ⟨_, fp, dp, rfl, _, hg, k⟩
/-- arrow -/
def optV (o : Option Nat) : V := match o with
  | some n => .int n
  | none => .non
def spArrow (K : PySem.W.Frag) (C : Addr) : Sp := fun vs H Q _ => ∃ (r : Addr) (ns cs : List (Nat × Nat)) (p : Nat), vs = [.ref r, .int p] ∧ StA K C H r ns cs ∧ p ≤ 999 ∧ Q (optV (look cs p)) H
theorem get_c {H : Hp} {da : Addr} {cs : List (Nat × Nat)} (h : H da = some (.dK (cs.map ck))) (p : Nat) : DGet H da (.int p) ((look cs p).map fun v : Nat => V.int v) := by
  have := DGet.k (k := Sum.inl (p : Int)) h
  rw [val_c, if_pos (by omega), Int.toNat_natCast] at this
  exact this
theorem optV_get (o : Option Nat) : (o.map fun v : Nat => V.int v).getD .non = optV o := by cases o <;> rfl
theorem sc_ar : FnScope ["self", "place"] ["self", "place"] (defScope (inClass (top 22) 4)) := ⟨rfl, rfl, rfl, by decide +kernel, rfl, by decide +kernel, by decide +kernel⟩
theorem ok_ar {f C : Addr} {fd : FuncData} {q : Str} (T : Tx mg) (W : StB K C) (F : FM K "arrow" q (inClass (top 22) 4) f fd) {f1 : Addr} {fd1 : FuncData} (C1 : Cal P w K mg base CX0 3 "is_place" ["value"] spPlace f1 fd1) : FnOk P w K mg base CX0 4 f fd ["self", "place"] (spArrow K C) := by
  obtain ⟨gis_place, kis_place, bis_place, Fis_place⟩ := C1
  refine F.ok sc_ar (fun vs H Q E h => ?_) (fun cdv A outer s H vs Q E hr h => ?_)
  · obtain ⟨_, _, _, _, rfl, _⟩ := h
    rfl
  · obtain ⟨r, ns, cs, p, rfl, ⟨dx, an, ac, dp, da, hr0, hn, hc, hp, ha, okn, okc⟩, hm, k⟩ := h
    have nd := sc_ar.nd
    obtain ⟨fn, fc, fp, fa, fl⟩ := StA.fa W hr0
    refine ⟨_, (pss_cons (ps_if (pt_not (pt_val (pe_call Fis_place (hr.mono (by omega)) rfl gis_place kis_place bis_place .nil pass0 (pa_cons (pv 1) pa_nil)))) (pss_one ps_never) pss_nil)
        (pss_one (ps_ret (pe_dget1 (hu_of hr) (Ob.pe_fldK (K := K) rfl (pv 0) rfl) (pv 1) ⟨rfl, rfl, rfl, rfl⟩)))), ?_⟩
    refine sq fun U hU => ?_
    walk_at "rd"
    refine ⟨p, rfl, true, by rw [decide_eq_true (show (0 : Int) ≤ p by omega), decide_eq_true (show (p : Int) ≤ 999 by omega)]; rfl, ?_⟩
    rw [if_neg (by decide)]
    refine hU _ _ ?_
    walk_at "rd"
    refine ⟨_, fa, da, rfl, .inl ⟨_, .inl ha⟩, _, get_c ha p, ?_⟩
    rw [optV_get]
    exact k
/-- is_gone -/
def goneB (ns cs : List (Nat × Nat)) (p : Nat) : Bool := !decide (p = 0) && ((look cs p).isNone && (ns.any (fun n => decide (n.2 = p)) || cs.any (fun c => decide (c.2 = p))))
def spGone (K : PySem.W.Frag) (C : Addr) : Sp := fun vs H Q _ => ∃ (r : Addr) (ns cs : List (Nat × Nat)) (p : Nat), vs = [.ref r, .int p] ∧ StA K C H r ns cs ∧ p ≤ 999 ∧ ∀ H', Same H H' → Q (.bl (goneB ns cs p)) H'
def goP (H : Hp) (ns : List (Nat × Nat)) (p : Nat) (g : Nat × Nat → Nat) (D : Addr) (j : Nat) (H' : Hp) : Prop := Same H H' ∧ H' D = some (.lst (((ns.take j).filter fun n => decide (n.2 = p)).map fun n => V.int (g n)))
theorem any_fil {α : Type} (p : α → Bool) (l : List α) : decide (¬ l.filter p = []) = l.any p := by
  rw [Bool.eq_iff_iff, decide_eq_true_eq, List.any_eq_true]
  constructor
  · intro h
    obtain ⟨x, hx⟩ := List.exists_mem_of_ne_nil _ h
    rw [List.mem_filter] at hx
    exact ⟨x, hx⟩
  · rintro ⟨x, hx, h⟩ z
    have : x ∈ l.filter p := List.mem_filter.mpr ⟨hx, h⟩
    rw [z] at this
    cases this
theorem goP_step {H : Hp} {ns : List (Nat × Nat)} {p : Nat} {g : Nat × Nat → Nat} {D : Addr} {j : Nat} {H' : Hp} (hl : ns.length ≤ 500) (h : goP H ns p g D j H') (hD : H D = none) {n : Nat × Nat} (hn : ns[j]? = some n) (z : Nat) (ez : g n = z) :
    if (n.2 : Int) = p then ∃ acc, H' D = some (.lst acc) ∧ acc.length < sizeLine ∧ goP H ns p g D (j + 1) (upd H' D (.lst (acc ++ [V.int z]))) else goP H ns p g D (j + 1) H' := by
  obtain ⟨hs, hL⟩ := h
  have zl : (1000000 : Nat) ≤ sizeLine := line_big
  have e1 : (ns.take (j + 1)).filter (fun n => decide (n.2 = p)) = (ns.take j).filter (fun n => decide (n.2 = p)) ++ if n.2 = p then [n] else [] := by
    rw [List.take_succ, hn, List.filter_append]
    congr 1
    by_cases c : n.2 = p
    · rw [if_pos c]; simp [c]
    · rw [if_neg c]; simp [c]
  split
  · rename_i c
    refine ⟨_, hL, ?_, fun c o e => ?_, ?_⟩
    · rw [List.length_map]
      have h1 := List.length_filter_le (fun n : Nat × Nat => decide (n.2 = p)) (ns.take j)
      have h2 : (List.take j ns).length ≤ ns.length := List.length_take_le' _ _
      omega
    · rw [upd_ne (ne_of_none e hD)]; exact hs c o e
    · rw [upd_same, e1, if_pos (by omega), List.map_append, ← ez]; rfl
  · rename_i c
    refine ⟨hs, ?_⟩
    rw [e1, if_neg (by omega), List.append_nil]
    exact hL
end
end K79

set_option Elab.async false
set_option linter.all false
set_option maxRecDepth 100000
set_option maxHeartbeats 4000000
namespace K79
open PySem PySem.Spec PyProof.Rows L2 Rd Dt Dq Pk Ln En Sx Sy
local macro_rules | `(tactic| walk_at "rd") => `(tactic| try simp only [↓Sy.tTupP_, ↓Sy.rTupP_, ↓Sy.rCatP_, ↓Sy.rSlP_, ↓Sy.rDictT_, ↓Sy.tDGet_, ↓Sy.tDGet1_, ↓Sy.tDIn_, ↓Sy.tDNotIn_, ↓Sy.tMeth_, ↓Sy.tMethKw_, ↓Sy.rSortedS_, ↓Sx.rIsT_, ↓En.tFor_enumT, ↓Sy.tFor_enumL, ↓Rv.tMakeKw_, ↓Prp.tProp_, ↓Lo.tBits_, ↓Lo.tJs_n, ↓Lo.tJs_c, ↓Lo.tFmt_, ↓Lo.gFld_, ↓Lo.tMake_, ↓Lo.rOwn_, ↓Rg.tFor_range3, ↓Rg.tLc_range3, ↓Rg.tLstC_, ↓Rg.tLc_rngV, ↓Le.rNeLE_, ↓Le.rEqLE_, ↓Ls.tLc_str, ↓Ls.sDPut_, ↓Rl.rReprL_, ↓Rl.tCallKS_, ↓Ob.tFld_, ↓Ob.sFld_, ↓tVar_, ↓tC_, ↓tM1, ↓tDNewK_, ↓tOp_, ↓tUn_, ↓rI_, ↓rI0_, ↓rU_, ↓eq_ii, ↓ne_ii, ↓eq_ss, ↓ne_ss, ↓eq_bb, ↓ne_bb, ↓tAndV_, ↓tOrV_, ↓tNotV_, ↓tIf_, ↓tTest_, ↓tB_, ↓tAnd_, ↓tOr_, ↓tNot_, ↓tChain_, ↓tNil_, ↓tCons_, ↓tTup_, ↓tLst_, ↓tCB_, ↓tCall_, ↓tSeq_, ↓tNext_, ↓tRet_, ↓tRetN_, ↓tDrop_, ↓tBreak_, ↓tNever_, ↓tIfS_, ↓tAsg_, ↓gName_, ↓gTup_, ↓gCons_, ↓gNil_, ↓gSub_, ↓tPar_, ↓tPar3_, ↓tSl_, ↓tNoPart_, ↓tPart_, ↓tBM_, ↓tFor_range1, ↓tFor_range2, ↓tFor_list, ↓tFor_tup, L2.start, List.headD_cons, List.headD_nil, List.tail_cons, List.map_cons, List.map_nil, List.length_cons, List.length_nil, List.replicate, List.append_nil, List.nil_append, List.cons_append, List.getElem?_cons_zero, List.getElem?_cons_succ, List.set_cons_zero, List.set_cons_succ, Option.some.injEq, V.int.injEq, V.bl.injEq, V.str.injEq, V.ref.injEq, exists_eq_left, exists_eq_left', exists_eq_right, exists_eq, exists_and_left, and_true, true_and, decide_eq_true_eq, Nat.reduceAdd, Nat.reduceSub, Nat.add_zero, Nat.zero_add, List.cons.injEq, Bool.not_eq_true', decide_eq_false_iff_not, eq_self, reduceCtorEq, Bool.false_eq_true, if_true, if_false, ite_true, ite_false, and_self, ↓tLc_range1, ↓tLc_range2, ↓tLc_list, ↓tLc_tup, ↓tYes_, wipe0, wipe1, ↓tCallS_, ↓rIxL_, ↓rIxT_, ↓rSlL_, ↓rCat_, ↓rSetL_, ↓rRep_, ↓rGcd_, ↓tCallK_, ↓gUnl_, ↓tRaise_, decide_true, decide_false, not_true_eq_false, not_false_eq_true, false_and, or_false, false_or, and_false, and_assoc, exists_const, forall_const, forall_eq'])
section
variable {P : Program} {w : World} {K : PySem.W.Frag} {mg : Str → Option Value} {base : Heap}
/-! ### as data -/
def dN (ns : List (Nat × Nat)) : PyData := .tuple ((ns.map nk).map pD)
def dC (cs : List (Nat × Nat)) : PyData := .tuple ((cs.map ck).map pD)
theorem fit_nat {n : Nat} (h : n < 1024) : Fit (.int (n : Int)) 0 12 := (Fit.int (k := 10) (by decide) (by decide) (by rw [Int.natAbs_natCast]; exact h)).mono (Nat.le_refl _) (by decide)
theorem fit_pair {a b : PyData} (h1 : Fit a 0 12) (h2 : Fit b 0 12) : Fit (.tuple [a, b]) 1 31 := Fit.tuple fun d hd => by
  rcases List.mem_cons.mp hd with rfl | hd
  · exact h1
  · rw [List.mem_singleton.mp hd]; exact h2
theorem fit_L1 {c : Nat} (h : c < 0x110000) : Fit (.str (L1 c)) 0 12 := (Fit.str (n := 1) (Nat.le_refl _) fun x hx => by
  have : x = c := by simpa [L1] using hx
  omega).mono (Nat.le_refl _) (by decide)
theorem fit_N {ns : List (Nat × Nat)} (h : NmOk ns) : Fit (dN ns) 2 17000 := (Fit.tuple (k := 1) (n := 31) fun d hd => by
  obtain ⟨kv, hk, rfl⟩ := List.mem_map.mp hd
  obtain ⟨n, hn, rfl⟩ := List.mem_map.mp hk
  obtain ⟨b1, b2, b3⟩ := h.2.2.1 n hn
  exact fit_pair (fit_L1 (by omega)) (fit_nat (by omega))).mono (Nat.le_refl _) (by
  rw [List.length_map, List.length_map]
  have := h.2.1
  omega)
theorem fit_C {cs : List (Nat × Nat)} (h : ClOk cs) : Fit (dC cs) 2 17000 := (Fit.tuple (k := 1) (n := 31) fun d hd => by
  obtain ⟨kv, hk, rfl⟩ := List.mem_map.mp hd
  obtain ⟨n, hn, rfl⟩ := List.mem_map.mp hk
  obtain ⟨b1, b2, b3⟩ := h.2.1 n hn
  exact fit_pair (fit_nat (by omega)) (fit_nat (by omega))).mono (Nat.le_refl _) (by
  rw [List.length_map, List.length_map]
  have := h.1
  omega)
theorem eqv_pairs {g : Nat × Nat → Key × V} (hg : ∀ a b, PyData.eqv (pD (g a)) (pD (g b)) = decide (a = b)) : ∀ xs ys : List (Nat × Nat), PyData.eqvAll ((xs.map g).map pD) ((ys.map g).map pD) = decide (xs = ys)
  | [], [] => by simp [PyData.eqvAll]
  | [], _ :: _ => by simp [PyData.eqvAll]
  | _ :: _, [] => by simp [PyData.eqvAll]
  | x :: xs, y :: ys => by
    show (PyData.eqv (pD (g x)) (pD (g y)) && PyData.eqvAll ((xs.map g).map pD) ((ys.map g).map pD)) = _
    rw [hg, eqv_pairs hg xs ys, Bool.eq_iff_iff]
    simp
theorem eqv_N (xs ys : List (Nat × Nat)) : PyData.eqv (dN xs) (dN ys) = decide (xs = ys) := by
  unfold dN
  rw [PyData.eqv]
  refine eqv_pairs (fun a b => ?_) xs ys
  show PyData.eqv (.tuple [.str (L1 a.1), .int a.2]) (.tuple [.str (L1 b.1), .int b.2]) = _
  rw [PyData.eqv, PyData.eqvAll, PyData.eqvAll, PyData.eqvAll, PyData.eqv, PyData.eqv, Bool.eq_iff_iff]
  obtain ⟨a1, a2⟩ := a
  obtain ⟨b1, b2⟩ := b
  simp only [Bool.and_true, Bool.and_eq_true, beq_iff_eq, decide_eq_true_eq, Prod.mk.injEq]
  constructor
  · rintro ⟨h1, h2⟩
    exact ⟨L1_inj h1, by omega⟩
  · rintro ⟨rfl, rfl⟩
    exact ⟨rfl, rfl⟩
theorem eqv_C (xs ys : List (Nat × Nat)) : PyData.eqv (dC xs) (dC ys) = decide (xs = ys) := by
  unfold dC
  rw [PyData.eqv]
  refine eqv_pairs (fun a b => ?_) xs ys
  show PyData.eqv (.tuple [.int a.1, .int a.2]) (.tuple [.int b.1, .int b.2]) = _
  rw [PyData.eqv, PyData.eqvAll, PyData.eqvAll, PyData.eqvAll, PyData.eqv, PyData.eqv, Bool.eq_iff_iff]
  obtain ⟨a1, a2⟩ := a
  obtain ⟨b1, b2⟩ := b
  simp only [Bool.and_true, Bool.and_eq_true, beq_iff_eq, decide_eq_true_eq, Prod.mk.injEq]
  constructor
  · rintro ⟨h1, h2⟩
    omega
  · rintro ⟨rfl, rfl⟩
    exact ⟨rfl, rfl⟩
theorem dp_N {H : Hp} {a : Addr} {ns : List (Nat × Nat)} (h : PrsAt K H a (ns.map nk)) : Dp K H (.ref a) (dN ns) := h.dp (intV_n ns)
theorem dp_C {H : Hp} {a : Addr} {cs : List (Nat × Nat)} (h : PrsAt K H a (cs.map ck)) : Dp K H (.ref a) (dC cs) := h.dp (intV_c cs)
/-! ### == -/
def spEq (K : PySem.W.Frag) (C : Addr) : Sp := fun vs H Q _ => ∃ (r : Addr) (y : V) (ns cs : List (Nat × Nat)), vs = [.ref r, y] ∧ StA K C H r ns cs ∧ ((∃ t, TyOf K H y t ∧ PySem.W.kitOne K t (.ref C) = some false ∧ Q (.bl false) H) ∨
  ∃ (b : Addr) (ns' cs' : List (Nat × Nat)), y = .ref b ∧ StA K C H b ns' cs' ∧ Q (.bl (decide (ns = ns') && decide (cs = cs'))) H)
theorem sc_eq : FnScope ["self", "other"] ["self", "other"] (defScope (inClass (top 22) 1)) := ⟨rfl, rfl, rfl, by decide +kernel, rfl, by decide +kernel, by decide +kernel⟩
theorem ok_eq {f C fi : Addr} {fd : FuncData} {q : Str} (T : Tx mg) (W : StB K C) (L : StM K mg C fi) (F : FM K "__eq__" q (inClass (top 22) 1) f fd) : FnOk P w K mg base CX0 1 f fd ["self", "other"] (spEq K C) := by
  refine F.ok sc_eq (fun vs H Q E h => ?_) (fun cdv A outer s H vs Q E hr h => ?_)
  · obtain ⟨_, _, _, _, rfl, _⟩ := h
    rfl
  · obtain ⟨r, y, ns, cs, rfl, ⟨dx, an, ac, dp, da, hr0, hn, hc, hp, ha, okn, okc⟩, hy⟩ := h
    have nd := sc_eq.nd
    obtain ⟨fn, fc, fp, fa, fl⟩ := StA.fa W hr0
    refine ⟨_, (pss_one (ps_ret (pe_and (pe_callB call_isi (by rfl) T.b_isinstance (by decide +kernel) (pa_cons (pv 1) (pa_cons (pe_glob (v := .ref C) rfl L.g rfl) pa_nil))) (pe_and (pe_cmpR (op_eqD hr.units) (Ob.pe_fldK (K := K) rfl (pv 0) rfl) (Ob.pe_fldK (K := K) rfl (pv 1) rfl) (nomark _)) (pe_one (pe_cmpR (op_eqD hr.units) (Ob.pe_fldK (K := K) rfl (pv 0) rfl) (Ob.pe_fldK (K := K) rfl (pv 1) rfl) (nomark _))))))), ?_⟩
    walk_at "rd"
    rcases hy with ⟨t, ty, kt, k⟩ | ⟨b, ns', cs', rfl, ⟨dy, an', ac', dp', da', hb, hn', hc', hp', ha', okn', okc'⟩, k⟩
    · exact ⟨_, _, t, .ref C, false, rfl, .own C, .base ty, kt, false, rfl, by rw [if_neg (by decide)]; exact k⟩
    · obtain ⟨gn, gc, gp, ga, gl⟩ := StA.fa W hb
      have kit : PySem.W.kitOne K (.ref C) (.ref C) = some true := by unfold PySem.W.kitOne; rw [if_pos (by exact beq_self_eq_true _)]
      refine ⟨_, _, .ref C, .ref C, true, rfl, .own C, .base (.ins hb L.own.cl L.own.ha L.own.hn L.own.ht L.own.hm), kit, true, rfl, ?_⟩
      rw [if_pos rfl]
      refine ⟨_, fn, b, rfl, _, gn, rEqD_ (fit_N okn) (fit_N okn') (by decide) (by decide) (dp_N hn) (dp_N hn') ⟨_, rfl, ?_⟩⟩
      rw [eqv_N]
      by_cases c : ns = ns'
      · rw [decide_eq_true c] at k ⊢
        rw [if_pos rfl]
        refine ⟨_, fc, b, rfl, _, gc, rEqD_ (fit_C okc) (fit_C okc') (by decide) (by decide) (dp_C hc) (dp_C hc') ?_⟩
        rw [eqv_C]
        exact k
      · rw [decide_eq_false c] at k ⊢
        rw [if_neg (by decide)]
        exact k
/-! ### text -/
def spText (K : PySem.W.Frag) (C : Addr) : Sp := fun vs H Q _ => ∃ (r : Addr) (ns cs : List (Nat × Nat)), vs = [.ref r] ∧ StA K C H r ns cs ∧ ∀ H', Same H H' → Q (.str (storeT ns cs)) H'
def txP (H : Hp) (g : Nat × Nat → Str) (ns : List (Nat × Nat)) (D : Addr) (j : Nat) (H' : Hp) : Prop := Same H H' ∧ H' D = some (.lst (((ns.take j).map g).map V.str))
theorem txP_step {H : Hp} {g : Nat × Nat → Str} {ns : List (Nat × Nat)} {D : Addr} {j : Nat} {H' : Hp} (hl : ns.length ≤ 500) (h : txP H g ns D j H') (hD : H D = none) {n : Nat × Nat} (hn : ns[j]? = some n) (z : Str) (ez : z = g n) :
    ∃ acc, H' D = some (.lst acc) ∧ acc.length < sizeLine ∧ txP H g ns D (j + 1) (upd H' D (.lst (acc ++ [V.str z]))) := by
  obtain ⟨hs, hL⟩ := h
  have zl : (1000000 : Nat) ≤ sizeLine := line_big
  refine ⟨_, hL, ?_, fun c o e => ?_, ?_⟩
  · rw [List.length_map, List.length_map]
    have h2 : (List.take j ns).length ≤ ns.length := List.length_take_le' _ _
    omega
  · rw [upd_ne (ne_of_none e hD)]; exact hs c o e
  · rw [upd_same, List.take_succ, hn, List.map_append, List.map_append, ez]; rfl
theorem sc_tx : FnScope ["self", "names", "cells", "letter", "place", "arrow"] ["self"] (defScope (inClass (top 22) 2)) := ⟨rfl, rfl, rfl, by decide +kernel, rfl, by decide +kernel, by decide +kernel⟩
theorem ok_tx {f C : Addr} {fd : FuncData} {q : Str} (T : Tx mg) (W : StB K C) (F : FM K "text" q (inClass (top 22) 2) f fd) : FnOk P w K mg base CX0 1 f fd ["self"] (spText K C) := by
  refine F.ok sc_tx (fun vs H Q E h => ?_) (fun cdv A outer s H vs Q E hr h => ?_)
  · obtain ⟨_, _, _, rfl, _⟩ := h
    rfl
  · obtain ⟨r, ns, cs, rfl, ⟨dx, an, ac, dp, da, hr0, hn, hc, hp, ha, okn, okc⟩, k⟩ := h
    have nd := sc_tx.nd
    obtain ⟨fn, fc, fp, fa, fl⟩ := StA.fa W hr0
    refine ⟨_, (pss_cons (ps_set (i := 1) nd rfl (Or.inl rfl) (pe_join pe_str (pe_lc (own := [("letter", 3), ("place", 4)]) rfl nd (pi_tup (Ob.pe_fldK (K := K) rfl (pv 0) rfl)) (blkOk_by (N := ["self", "names", "cells", "letter", "place", "arrow"]) (sc := defScope (inClass (top 22) 2)) (by decide +kernel)) (fun _ _ _ _ _ => (pg_tupK (K := K) (n := 2) rfl rfl (pgs_cons (pg_name (i := 3) nd rfl (Or.inl rfl) (hf := Or.inr rfl)) (pgs_cons (pg_name (i := 4) nd rfl (Or.inl rfl) (hf := Or.inr rfl)) pgs_nil)) rfl rfl)) (fun _ _ _ _ _ => pts_nil) (fun _ _ _ _ _ => (pe_joined (PJ.cons (pe_fmt (pv 3)) (PJ.cons (pe_str) (PJ.cons (pe_fmt (pv 4)) PJ.nil))))))))
        (pss_cons (ps_set (i := 2) nd rfl (Or.inl rfl) (pe_join pe_str (pe_lc (own := [("place", 4), ("arrow", 5)]) rfl nd (pi_tup (Ob.pe_fldK (K := K) rfl (pv 0) rfl)) (blkOk_by (N := ["self", "names", "cells", "letter", "place", "arrow"]) (sc := defScope (inClass (top 22) 2)) (by decide +kernel)) (fun _ _ _ _ _ => (pg_tupK (K := K) (n := 2) rfl rfl (pgs_cons (pg_name (i := 4) nd rfl (Or.inl rfl) (hf := Or.inr rfl)) (pgs_cons (pg_name (i := 5) nd rfl (Or.inl rfl) (hf := Or.inr rfl)) pgs_nil)) rfl rfl)) (fun _ _ _ _ _ => pts_nil) (fun _ _ _ _ _ => (pe_joined (PJ.cons (pe_fmt (pv 4)) (PJ.cons (pe_str) (PJ.cons (pe_fmt (pv 5)) PJ.nil))))))))
        (pss_one (ps_ret (pe_op op_add_str (pe_op op_add_str (pv 1) pe_str) (pe_ifExp (pt_cmpR op_ne (pv 2) pe_str (nomark _)) (pv 2) pe_str)))))), ?_⟩
    refine sq fun U hU => ?_
    walk_at "rd"
    obtain ⟨xs, pl, prs⟩ := hn
    have hl := prs.len
    rw [List.length_map] at hl
    have zl : (1000000 : Nat) ≤ sizeLine := line_big
    have o4 : ns.length ≤ 500 := by have := okn.2.1; omega
    refine ⟨⟨_, rfl⟩, _, fn, an, rfl, ⟨_, pl.sqt⟩, lc_t (xs := xs) (txP H nameW ns) fun D hD => ⟨⟨same_new hD, upd_same⟩, fun j H6 _ hP => sqt_up hP.1 pl.sqt, ?_, ?_⟩⟩
    · rintro j y H6 hy hP
      obtain ⟨kv, b, hkv, rfl, eb⟩ := (prs.up hP.1).atV hy
      obtain ⟨n, hn, rfl⟩ := map_at hkv
      obtain ⟨b1, b2, b3⟩ := okn.2.2.1 n (List.mem_of_getElem? hn)
      have eb : SqT K H6 b [.str (L1 n.1), .int n.2] := eb
      unfold Lturn
      walk_at "rd"
      refine ⟨_, eb, rfl, _, _, rfl, _, _, rfl, rfl, ?_⟩
      have l1 := nlen b3
      have e0 : (Str.empty ++ L1 n.1) = L1 n.1 := TL.ext_tl (by rw [TL.tl_append]; rfl)
      have e1 : (L1 n.1).length = 1 := rfl
      have e2 : (Str.ofString "=").length = 1 := by decide
      have en : Str.ofString (toString (n.2 : Int)) = numT n.2 := rfl
      exact .inl ⟨_, rfl, by omega, by rw [e0]; omega, by rw [e0, Str.length_append]; omega, .inr ⟨_, rfl, lg (by omega), by rw [e0, Str.length_append, Str.length_append, en]; omega, txP_step o4 hP hD hn _ (by rw [e0]; rfl)⟩⟩
    · rintro H6 ⟨hs, hL⟩
      rw [hl, List.take_length] at hL
      have es : (Str.ofString " ").length = 1 := by decide
      refine ⟨D, rfl, _, .inl (SqL.of hL), ?_, hU _ _ ?_⟩
      · have h2 := sum_le (fun s : Str => s.length) 6 (ns.map nameW) (fun s hs' => by
          obtain ⟨n, hn, rfl⟩ := List.mem_map.mp hs'
          exact nameW_len (okn.2.2.1 n hn).2.2)
        rw [List.length_map] at h2
        rw [es, List.length_map]
        omega
      clear hU
      refine sq fun U hU => ?_
      walk_at "rd"
      obtain ⟨xs2, pl2, prs2⟩ := hc.up hs
      have hl2 := prs2.len
      rw [List.length_map] at hl2
      have o5 := okc.1
      refine ⟨⟨_, rfl⟩, _, (StA.fa W (hs _ _ hr0)).2.1, ac, rfl, ⟨_, pl2.sqt⟩, lc_t (xs := xs2) (txP H6 cellW cs) fun D2 hD2 => ⟨⟨same_new hD2, upd_same⟩, fun j H8 _ hP => sqt_up hP.1 pl2.sqt, ?_, ?_⟩⟩
      · rintro j y H8 hy hP
        obtain ⟨kv, b, hkv, rfl, eb⟩ := (prs2.up hP.1).atV hy
        obtain ⟨n, hn, rfl⟩ := map_at hkv
        obtain ⟨b1, b2, b3⟩ := okc.2.1 n (List.mem_of_getElem? hn)
        have eb : SqT K H8 b [.int n.1, .int n.2] := eb
        unfold Lturn
        walk_at "rd"
        refine ⟨_, eb, rfl, _, _, rfl, _, _, rfl, rfl, ?_⟩
        have l1 := nlen b3
        have l0 := nlen b2
        have e2 : (Str.ofString ">").length = 1 := by decide
        have en : Str.ofString (toString (n.2 : Int)) = numT n.2 := rfl
        have en1 : Str.ofString (toString (n.1 : Int)) = numT n.1 := rfl
        have e0 : (Str.empty ++ numT n.1) = numT n.1 := TL.ext_tl (by rw [TL.tl_append]; rfl)
        exact .inr ⟨_, rfl, lg (by omega), by rw [en1, e0]; omega, by rw [en1, e0, Str.length_append]; omega, .inr ⟨_, rfl, lg (by omega), by rw [en1, e0, Str.length_append, Str.length_append, en]; omega, txP_step o5 hP hD2 hn _ (by rw [en1, e0]; rfl)⟩⟩
      · rintro H8 ⟨hs8, hL8⟩
        rw [hl2, List.take_length] at hL8
        refine ⟨D2, rfl, _, .inl (SqL.of hL8), ?_, hU _ _ ?_⟩
        · have h2 := sum_le (fun s : Str => s.length) 9 (cs.map cellW) (fun s hs' => by
            obtain ⟨n, hn, rfl⟩ := List.mem_map.mp hs'
            exact cellW_len (okc.2.1 n hn).2.1 (okc.2.1 n hn).2.2)
          rw [List.length_map] at h2
          rw [es, List.length_map]
          omega
        clear hU
        walk_at "rd"
        have m1 := namesT_len okn
        have m2 := cellsT_len okc
        have e3 : (Str.ofString " | ").length = 3 := by decide
        have e4 : (Str.ofString "none").length = 4 := by decide
        have e5 : (Txt.join (Str.ofString " ") (ns.map nameW)).length ≤ 28 := m1
        have kk := k _ (fun c o e => hs8 _ _ (hs _ _ e))
        refine ⟨by omega, ?_⟩
        by_cases ce : cs = []
        · subst ce
          rw [if_neg (by decide +kernel)]
          exact ⟨by rw [Str.length_append]; omega, kk⟩
        · rw [if_pos (cells_empty ce okc)]
          unfold storeT cellsT at kk
          rw [if_neg ce] at kk
          exact ⟨by rw [Str.length_append]; have := m2.2; omega, kk⟩
end
end K79

set_option Elab.async false
set_option linter.all false
set_option maxRecDepth 100000
set_option maxHeartbeats 4000000
/-! sorted of a tuple of pairs; set of a list of ints -/
namespace So
open PySem PySem.Spec PyProof.Rows L2 Rd Dt Pk Ln En Sx Sy
section
variable {P : Program} {w : World} {A : Around} {E : Value → Shared → Prop} {s : Shared}
/-- what stands behind a collected row -/
abbrev gath (h : Heap) (vs : List Value) : Heap := (h.push (seqObj "list" #[] 0)).update h.objs.size (Obj.mapSeq (· ++ vs.toArray))
theorem gath_tuple {l : Addr} {vs : List Value} {Q : List Value → Shared → Prop} (hl : s.heap.IsTuple l vs.toArray) (hz : vs.length ≤ sizeLine)
    (h : Q vs { s with heap := gath s.heap vs }) : wpAny (model P w) A (collect (.ref l)) Q E s := by
  have ⟨o, ho, hc, n, hd⟩ := hl
  have old : (s.heap.push (seqObj "list" #[] 0)).get? l = some o := Heap.get?_push_of_some _ ho
  have new : (s.heap.push (seqObj "list" #[] 0)).get? s.heap.objs.size = some (seqObj "list" #[] 0) := Heap.get?_push_size _ rfl
  unfold collect
  refine wpAny_bind (wpAny_runValue (codeAny_builtin entry_proto_collect' ?_))
  show wpAny _ _ (do again (.builtin "list.__iadd__" ⟨[← newList [], .ref l], []⟩)) _ _ s
  refine wpAny_bind (wpAny_newList (wpAny_pure ⟨Code.quiet_builtin _ (by decide +kernel), codeAny_builtin entry_list_iadd' ?_⟩))
  show wpAny _ _ (Builtin.List.listExtendWith (.ref s.heap.objs.size) (.ref l) (.ref s.heap.objs.size)) _ _ { s with heap := s.heap.push (seqObj "list" #[] 0) }
  unfold Builtin.List.listExtendWith
  refine wpAny_bind (wpAny_typeOf (T := "tuple") ⟨o, old, hc⟩ ?_)
  have tt : (Value.type "tuple" == Value.type "tuple") = true := by rfl
  rw [if_pos (by rw [tt]; simp)]
  refine wpAny_bind (listItems_at old hd (wpAny_bind (listItems_at (xs := #[]) (n := 0) new rfl ?_)))
  rw [if_neg (by simp)]
  refine wpAny_bind (listUpdate_at (xs := #[]) (n := 0) new rfl ?_ (Nat.zero_le _) (by show (#[] ++ vs.toArray).size ≤ sizeLine + 1; simp only [Array.size_append, List.size_toArray, List.length_nil]; omega))
  refine wpAny_pure ?_
  show wpAny (model P w) A (do
      let o ← load s.heap.objs.size
      match o.data with
      | .seq xs _ => pure xs.toList
      | _ => unsupported "internal:collect") Q E { s with heap := gath s.heap vs }
  refine wpAny_bind (wpAny_load (get?_update_seq new _) ?_)
  show wpAny _ _ (pure ((#[] : Array Value) ++ vs.toArray).toList) Q E _
  have e : ((#[] : Array Value) ++ vs.toArray).toList = vs := by simp
  rw [e]
  exact wpAny_pure h
/-- sorted(t): the collected row is sorted in place -/
theorem sortT {l : Addr} {vs : List Value} {ltv : Value → Value → Bool} {Q : Value → Shared → Prop} (O : SrtO.Swo ltv) (hl : s.heap.IsTuple l vs.toArray) (hz : vs.length ≤ sizeLine)
    (hS : 2 ≤ vs.length → ∀ (h1 : Heap) (a : Addr), h1.get? a = some (seqObj "list" vs.toArray 0) → (∀ b o, s.heap.get? b = some o → b ≠ a ∧ h1.get? b = some o) → SrtO.SortableO P w A.in1.in1 { s with heap := h1 } a vs ltv)
    (h : ∀ out : List Value, SrtO.Srtd ltv out → SrtO.Stb ltv out vs → Q (.ref (s.heap.objs.size + 1)) { s with heap := sortedAll s.heap vs out.toArray }) :
    wpAny (model P w) A (call (.builtin "sorted") [.ref l]) Q E s := by
  refine Calls.call_function_entry kind_sorted plain_sorted entry_sorted (args_sorted1 _) ?_
  unfold Builtin.«sorted»
  refine wpAny_bind (m := checkCount "sorted" 1 1 _) (wpAny_pure (wpAny_bind (gath_tuple hl hz (wpAny_bind (wpAny_newList ?_ hz)))))
  have sz : (gath s.heap vs).objs.size = s.heap.objs.size + 1 := by rw [Heap.size_update]; exact Heap.size_push ..
  have mine : ((gath s.heap vs).push (seqObj "list" vs.toArray 0)).get? (s.heap.objs.size + 1) = some (seqObj "list" vs.toArray 0) := by
    rw [← sz]
    exact Heap.get?_push_size _ rfl
  have rest : ∀ b o, s.heap.get? b = some o → b ≠ s.heap.objs.size + 1 ∧ ((gath s.heap vs).push (seqObj "list" vs.toArray 0)).get? b = some o := fun b o q => by
    have lt := Heap.lt_size q
    refine ⟨Nat.ne_of_lt (Nat.lt_succ_of_lt lt), Heap.get?_push_of_some _ ?_⟩
    rw [Heap.get?_update_ne _ _ _ _ (Nat.ne_of_lt lt)]
    exact Heap.get?_push_of_some _ q
  show wpAny _ _ _ _ _ { s with heap := (gath s.heap vs).push (seqObj "list" vs.toArray 0) }
  rw [sz]
  refine wpAny_bind (wpAny_holding (wpAny_call_entry slot_list_sort ⟨_, mine, rfl⟩ entry_list_sort (SrtO.list_sort_ord O mine hz (fun z => hS z _ _ mine rest) fun out a b => ⟨_, rfl, ?_⟩) (args_list_sort _)))
  exact wpAny_pure ⟨_, rfl, h out a b⟩
end
/-- sorted(t), t a tuple of pairs of ints of any length -/
def rSortedPT (K : PySem.W.Frag) : List V → Hp → VK → Prop := fun vs H Q => ∃ (a : Addr) (xs : List V) (k : V → Int × Int), vs = [V.ref a] ∧ SqT K H a xs ∧ (∀ x ∈ xs, ∃ t, x = V.ref t ∧ SqT K H t [.int (k x).1, .int (k x).2]) ∧
  ∀ ys p, SrtO.Srtd (ltP k) ys → SrtO.Stb (ltP k) ys xs → H p = none → Q (.ref p) (upd H p (.lst ys))
section
variable {X : Cx} {K : PySem.W.Frag}
theorem cr_sortedPT (hK : X.K = K) : CallR X (.builtin "sorted") (rSortedPT K) := by
  subst hK
  intro pins s σ H vs us Q I r h
  obtain ⟨a, xs, k, rfl, hs, hx, q⟩ := h
  obtain ⟨its, rv, hl, hz⟩ := I.tuple hs
  obtain ⟨u, rfl, ru⟩ := vals1 r
  cases ru
  obtain ⟨e1, e2⟩ := refs_back rv fun x m => by
    obtain ⟨t, e, _⟩ := hx x m
    exact ⟨t, e⟩
  have hp : ∀ v ∈ its, Srt.IsPair s.heap v (k (backV v)).1 (k (backV v)).2 := fun v hv => by
    obtain ⟨t, rfl⟩ := e2 v hv
    have hm : V.ref t ∈ xs := by rw [e1]; exact List.mem_map.mpr ⟨_, hv, rfl⟩
    obtain ⟨t', e, ht⟩ := hx _ hm
    cases e
    obtain ⟨us2, r2, ⟨o, ho, hc, n, hd⟩, _⟩ := I.tuple ht
    obtain ⟨u1, u2, rfl, ⟨t1, rfl⟩, ⟨t2, rfl⟩⟩ := vals2 r2
    exact ⟨t, o, t1, t2, n, rfl, ho, hc, hd⟩
  refine sortT (SrtO.swo_lex fun u => k (backV u)) hl (by rw [← rv.length]; exact hz) (fun h2 h1 b hb kk => ?_) fun out ho hb => ?_
  · refine SrtO.pairs_sortableO (s := { s with heap := h1 }) (by omega) (fun v hv => (hp v hv).keeps fun b o e _ => (kk b o e).2) fun o e => ?_
    have e' : some o = some (seqObj "list" its.toArray 0) := e.symm.trans hb
    cases e'
    exact fun c => absurd (Value.type.inj c) (by decide)
  · have h3 : ∀ u ∈ out, ∃ a, u = Value.ref a := fun u hu => e2 u (hb.perm.mem_iff.mp hu)
    obtain ⟨n, hn⟩ := PyProof.Rows.sortedAll_at s.heap its out.toArray
    have hs2 : SrtO.Stb (ltP k) (out.map backV) xs := by
      rw [e1]
      exact SrtO.Stb.map (ltP_swo k) backV hb
    refine ⟨.ref _, upd H (s.heap.objs.size + 1) (.lst (out.map backV)), I.laid (t' := s.toks) (fun _ _ => PyProof.Rows.sortedAll_old) (Nat.le_succ _) ⟨?_, out, n, vals_back h3, hn⟩, rfl, q _ _ (SrtO.srtd_map ho) hs2 (I.hok.fresh (Nat.le_succ _))⟩
    rw [hs2.len]
    exact hz
end
/-! ### set(l) of a list of ints -/
section
variable {P : Program} {w : World} {A : Around} {E : Value → Shared → Prop} {s : Shared}
/-- the empty set as it is made -/
abbrev emp (w : World) : Obj := { cls := .type "set", dict := none, data := .set #[] 0 (.fresh 0 0 (!w.params.followText "set-order")) }
set_option maxHeartbeats 8000000 in
theorem setL {l : Addr} {items : Array Value} (ns : List Int) {Q : Value → Shared → Prop} (hh : A.handled = none) (hl : s.heap.IsList l items) (hit : IntsAre items.toList ns) (hb : ns.length + 1 < scanBound)
    (h : ∀ (h' : Heap) (tk c : Nat), SetR w h' s.heap.objs.size (fun j => decide (j ∈ ns)) c → c ≤ ns.length → (∀ b o, s.heap.get? b = some o → h'.get? b = some o) → Q (.ref s.heap.objs.size) { s with heap := h', toks := tk }) :
    wpAny (model P w) A (call (.type "set") [.ref l]) Q E s := by
  have sz : items.size = ns.length := by rw [← Array.length_toList]; exact IntsAre.length hit
  obtain ⟨c, tl, hmro⟩ := F.called_set.mro
  have f1 := F.called_set.made
  have f2 := F.called_set.sub
  have f3 := F.called_set.notType
  have f4 := F.called_set.canCreate
  have f5 := F.typeCall_set_1 (.ref l)
  refine wpAny_call (codeAny_of_tree ?_)
  show wpAny _ _ (callAny (.type "set") _) _ _ _
  refine wpAny_pure ⟨Code.quiet_builtin _ (by decide +kernel), codeAny_builtin F.entry_type_call ?_⟩
  rw [Around.under_plain (weight_type_call_type "set" [.ref l] []) rfl]
  repeat (any_goals (first | assumption | wp_step))
  refine codeAny_mono (code_set_led1 (.ref l) (E := E) (Q₁ := fun x s1 => x = .ref s.heap.objs.size ∧ s1 = { s with heap := s.heap.push (emp w) }) ⟨rfl, rfl⟩) fun r s1 hr => ?_
  cases r with
  | error e => exact hr
  | ok fl =>
    cases fl with
    | ret x =>
      obtain ⟨rfl, rfl⟩ := hr
      have mine : (s.heap.push (emp w)).get? s.heap.objs.size = some (emp w) := Heap.get?_push_size _ rfl
      have hT : Shared.TypeIs { s with heap := s.heap.push (emp w) } (.ref s.heap.objs.size) "set" := ⟨_, mine, rfl⟩
      have f6 := F.called_set.init.lookup
      have f7 := F.called_set.init.bind (.ref s.heap.objs.size)
      repeat (any_goals (first | assumption | wp_step))
      refine codeAny_mono (codeAny_call_builtin (R := wants (fun r s2 => r = .none ∧ ∃ h' tk c, s2 = { s with heap := h', toks := tk } ∧ SetR w h' s.heap.objs.size (fun j => decide (j ∈ ns)) c ∧ c ≤ ns.length ∧
          ∀ b o, s.heap.get? b = some o → h'.get? b = some o) E) F.called_set.init.plain F.entry_set_init (check_set_init_1 hT ?_)) fun r2 s2 hr2 => ?_
      · obtain ⟨⟨oc, od, oD, os⟩, hol, hcl, nl, hdl⟩ := hl
        simp only at hcl hdl
        subst hcl; subst hdl
        have old : (s.heap.push (emp w)).get? l = some { cls := .type "list", dict := od, data := .seq items nl, slots := os } := Heap.get?_push_of_some _ hol
        have g1 := F.sub_list_set
        have g2 := F.sub_list_frozenset
        have g3 : (Value.type "list" == Value.type "dict") = false := by decide
        have isl : (s.heap.push (emp w)).IsList l items := ⟨_, old, rfl, nl, rfl⟩
        unfold Builtin.«set.__init__» noKeywords Builtin.Frozenset.updateFrom
        generalize hPI : pyIter = PI
        wp_walk
        subst hPI
        refine wpAny_pyIter_list isl (wpAny_bind (wpAny_runValue ?_))
        have lt := Heap.lt_size hol
        have one : (s.heap.push (emp w)).objs.size = s.heap.objs.size + 1 := Heap.size_push ..
        have h3 : A.in1.in1.in1.handled = none := by simp [hh]
        have n1 : l ≠ (s.heap.push (emp w)).objs.size := by rw [one]; exact Nat.ne_of_lt (Nat.lt_succ_of_lt lt)
        have n2 : s.heap.objs.size ∉ [(s.heap.push (emp w)).objs.size, l] := by
          rw [one]
          intro z
          rcases List.mem_cons.mp z with z | z
          · exact absurd z (Nat.ne_of_lt (Nat.lt_succ_self _))
          · exact absurd (List.mem_singleton.mp z).symm (Nat.ne_of_lt lt)
        refine set_update_ints ((Walks.list h3 _ l n1 items).toS) s.heap.objs.size n2 ns sz hb (fun i v hv => ?_) (items.size - 0) 0 _ (by omega) (Nat.zero_le _)
          ⟨⟨_, Heap.get?_push_size _ rfl, rfl, rfl⟩, isl.push _⟩ ⟨0, Nat.le_refl 0, setR_new_at (Heap.get?_push_of_some _ mine)⟩ fun s' c' hm hc' hS' => ?_
        · have hi : i < ns.length := by rw [← sz]; exact (Array.getElem?_eq_some_iff.mp hv).1
          obtain ⟨t, e⟩ := PyProof.Rows.IntsAre.int_at hit i v (by rw [Array.getElem?_toList]; exact hv)
          refine ⟨ns[i], t, List.getElem?_eq_getElem hi, ?_⟩
          rw [e, List.getD_eq_getElem?_getD, List.getElem?_eq_getElem hi] <;> rfl
        · obtain ⟨h', g', d', tk', os'⟩ := s'
          obtain rfl : g' = s.gens := hm.gens
          obtain rfl : d' = s.drawn := hm.drawn
          obtain rfl : os' = s.os := hm.os
          show wpAny _ _ _ _ _ _
          refine wpAny_pure ?_
          show wpAny _ _ (ret Value.none) _ _ _
          rw [sz] at hc'
          refine wpAny_pure ⟨rfl, h', tk', c', rfl, hS', hc', fun b o e => ?_⟩
          have lb := Heap.lt_size e
          refine hm.heap b o (fun z => ?_) (Heap.get?_push_of_some _ (Heap.get?_push_of_some _ e))
          rcases List.mem_cons.mp z with z | z
          · exact absurd z (Nat.ne_of_lt lb)
          · rw [one] at z
            exact absurd (List.mem_singleton.mp z) (Nat.ne_of_lt (Nat.lt_succ_of_lt lb))
      · cases r2 with
        | error e => exact hr2
        | ok fl2 =>
          cases fl2 with
          | ret r =>
            obtain ⟨rfl, h', tk, c', rfl, hS', hc', hk'⟩ := hr2
            repeat (any_goals (first | assumption | wp_step))
            exact h _ _ _ hS' hc' hk'
          | _ => exact hr2.elim
    | _ => exact hr.elim
end
def rSetLI (w : World) (K : PySem.W.Frag) : List V → Hp → VK → Prop := fun vs H Q => ∃ (p : Addr) (ns : List Int), vs = [.ref p] ∧ SqL K H p (ns.map V.int) ∧ ns.length ≤ 1000 ∧
  ∀ (a : Addr) (c : Nat), H a = none → c ≤ ns.length → Q (.ref a) (upd H a (SetO w a (fun j => decide (j ∈ ns)) c))
section
variable {X : Cx} {K : PySem.W.Frag} {w : World}
/-- set(l) of ints -/
theorem call_setL (hK : X.K = K) (hw : X.w = w) (hc : X.calm = true) : CallR X (.type "set") (rSetLI w K) := by
  subst hK hw
  intro pins s σ H xs us Q I r h
  obtain ⟨p, ns, rfl, hq, hz, q⟩ := h
  obtain ⟨u, rfl, rx⟩ := vals1 r
  cases rx
  obtain ⟨its, rv, hl, _⟩ := I.list hq
  refine setL ns (I.ok.hd hc) hl.isList (by simpa using rv.ints) (by unfold scanBound; omega) fun h' tk c hS hle kp => ?_
  exact ⟨.ref s.heap.objs.size, upd H s.heap.objs.size (SetO X.w s.heap.objs.size (fun j => decide (j ∈ ns)) c), I.laid (t' := tk) kp (Nat.le_refl _) (setO_new hS), rfl, q _ _ (I.hok.fresh (Nat.le_refl _)) hle⟩
end
/-! ### lists of pairs, grown -/
section
variable {K : PySem.W.Frag}
theorem lst_no2 {l : List V} (xs : List V) : HO.lst l ≠ .tup xs ∧ ∀ ob, HO.lst l ≠ .frz ob (.tup xs) := ⟨fun z => (by cases z), fun _ z => (by cases z)⟩
def pairP (K : PySem.W.Frag) (H : Hp) (kvs : List (Key × V)) (D : Addr) (j : Nat) (H' : Hp) : Prop := Same H H' ∧ ∃ xs, H' D = some (.lst xs) ∧ Prs K H' xs (kvs.take j)
theorem pairP_0 {H : Hp} {kvs : List (Key × V)} {D : Addr} (hD : H D = none) : pairP K H kvs D 0 (upd H D (.lst [])) := ⟨same_new hD, [], upd_same, .nil⟩
theorem pairP_step {H H' : Hp} {kvs : List (Key × V)} {D N : Addr} {j : Nat} {kv : Key × V} {x y : V} (hl : kvs.length ≤ 1000) (h : pairP K H kvs D j H') (hD : H D = none) (e : kvs[j]? = some kv) (hN : H' N = none) (ex : x = kV kv.1) (ey : y = kv.2) :
    ∃ acc, (upd H' N (.tup [x, y])) D = some (.lst acc) ∧ acc.length < sizeLine ∧ pairP K H kvs D (j + 1) (upd (upd H' N (.tup [x, y])) D (.lst (acc ++ [V.ref N]))) := by
  obtain ⟨hs, xs, hL, hP⟩ := h
  subst ex ey
  have nDN : D ≠ N := ne_of_none hL hN
  have zl : (1000000 : Nat) ≤ sizeLine := line_big
  have len := hP.len
  have tl : (kvs.take j).length ≤ kvs.length := List.length_take_le' _ _
  have hL2 : (upd H' N (.tup [kV kv.1, kv.2])) D = some (.lst xs) := by rw [upd_ne nDN]; exact hL
  refine ⟨xs, hL2, by omega, fun c o q => ?_, xs ++ [V.ref N], upd_same, ?_⟩
  · rw [upd_ne (ne_of_none q hD), upd_ne (ne_of_none (hs _ _ q) hN)]
    exact hs _ _ q
  · rw [List.take_succ, e]
    have b1 : But D (upd H' N (.tup [kV kv.1, kv.2])) (upd (upd H' N (.tup [kV kv.1, kv.2])) D (.lst (xs ++ [V.ref N]))) := But.put
    refine ((hP.up (same_new hN)).but b1 hL2 lst_no2).append (.cons (SqT.of ?_) .nil)
    rw [upd_ne (Ne.symm nDN)]
    exact upd_same
/-- a list of chosen rows, grown -/
def filP (K : PySem.W.Frag) (H : Hp) (p : Key × V → Bool) (kvs : List (Key × V)) (D : Addr) (j : Nat) (H' : Hp) : Prop := Same H H' ∧ ∃ xs, H' D = some (.lst xs) ∧ Prs K H' xs ((kvs.take j).filter p)
theorem filP_0 {H : Hp} {p : Key × V → Bool} {kvs : List (Key × V)} {D : Addr} (hD : H D = none) : filP K H p kvs D 0 (upd H D (.lst [])) := ⟨same_new hD, [], upd_same, .nil⟩
theorem filP_step {H H' : Hp} {p : Key × V → Bool} {kvs : List (Key × V)} {D b : Addr} {j : Nat} {kv : Key × V} (hl : kvs.length ≤ 1000) (h : filP K H p kvs D j H') (hD : H D = none) (e : kvs[j]? = some kv) (hb : SqT K H' b [kV kv.1, kv.2]) :
    if p kv = true then ∃ acc, H' D = some (.lst acc) ∧ acc.length < sizeLine ∧ filP K H p kvs D (j + 1) (upd H' D (.lst (acc ++ [V.ref b]))) else filP K H p kvs D (j + 1) H' := by
  obtain ⟨hs, xs, hL, hP⟩ := h
  have zl : (1000000 : Nat) ≤ sizeLine := line_big
  have len := hP.len
  have tl : (kvs.take j).length ≤ kvs.length := List.length_take_le' _ _
  have fl := List.length_filter_le p (kvs.take j)
  have eq : (kvs.take (j + 1)).filter p = (kvs.take j).filter p ++ (if p kv = true then [kv] else []) := by
    rw [List.take_succ, e, List.filter_append]
    congr 1
    by_cases d : p kv = true
    · rw [if_pos d]; simp only [Option.toList_some, List.filter_cons, d, if_true, List.filter_nil]
    · rw [if_neg d]; simp only [Option.toList_some, List.filter_cons, d, if_false, List.filter_nil, Bool.false_eq_true]
  split
  · rename_i d
    have b1 : But D H' (upd H' D (.lst (xs ++ [V.ref b]))) := But.put
    refine ⟨xs, hL, by omega, fun c o q => ?_, xs ++ [V.ref b], upd_same, ?_⟩
    · rw [upd_ne (ne_of_none q hD)]
      exact hs _ _ q
    · rw [eq, if_pos d]
      have row : Prs K H' [V.ref b] [kv] := .cons hb .nil
      exact (hP.append row).but b1 hL lst_no2
  · rename_i d
    rw [filP, eq, if_neg d, List.append_nil]
    exact ⟨hs, xs, hL, hP⟩
end
/-! ### sorted of pairs of numbers, by their Prs -/
section
variable {X : Cx} {K : PySem.W.Frag}
def rSortedC (K : PySem.W.Frag) : List V → Hp → VK → Prop := fun vs H Q => ∃ (a : Addr) (cs : List (Nat × Nat)), vs = [V.ref a] ∧ PrsAt K H a (cs.map ck) ∧
  ∀ (zs : List V) (ds : List (Nat × Nat)) (p : Addr), ds.Perm cs → ds.Pairwise (fun x y => x.1 ≤ y.1) → Prs K H zs (ds.map ck) → H p = none → Q (.ref p) (upd H p (.lst zs))
theorem Prs.mem {H : Hp} : ∀ {xs : List V} {kvs : List (Key × V)}, Prs K H xs kvs → ∀ x ∈ xs, ∃ kv ∈ kvs, ∃ t, x = .ref t ∧ SqT K H t [kV kv.1, kv.2]
  | _, _, .nil, _, h => nomatch h
  | _, _, .cons (kv := kv) e h, x, hx => by
    rcases List.mem_cons.mp hx with rfl | hx
    · exact ⟨kv, List.mem_cons_self .., _, rfl, e⟩
    · obtain ⟨kv2, m, q⟩ := Prs.mem h x hx
      exact ⟨kv2, List.mem_cons_of_mem _ m, q⟩
theorem Prs.ofMap {H : Hp} (g : V → Key × V) : ∀ ys : List V, (∀ x ∈ ys, ∃ t, x = .ref t ∧ SqT K H t [kV (g x).1, (g x).2]) → Prs K H ys (ys.map g)
  | [], _ => .nil
  | y :: ys, h => by
    obtain ⟨t, rfl, e⟩ := h y (List.mem_cons_self ..)
    exact .cons e (Prs.ofMap g ys fun x hx => h x (List.mem_cons_of_mem _ hx))
theorem Prs.map_eq {H : Hp} {kk : V → Nat × Nat} : ∀ {xs : List V} {cs : List (Nat × Nat)}, Prs K H xs (cs.map ck) → (∀ t c, SqT K H t [.int (c : Nat × Nat).1, .int c.2] → kk (.ref t) = c) → xs.map kk = cs
  | _, [], .nil, _ => rfl
  | _, c :: cs, .cons e h, u => by
    rw [List.map_cons, Prs.map_eq h u, u _ c e]
open Classical in
theorem cr_sortedC (hK : X.K = K) : CallR X (.builtin "sorted") (rSortedC K) := by
  subst hK
  intro pins s σ H vs us Q I r h
  obtain ⟨a, cs, rfl, ⟨xs, pl, prs⟩, q⟩ := h
  let kk : V → Nat × Nat := fun x => if h : ∃ c : Nat × Nat, ∃ t, x = .ref t ∧ SqT X.K H t [.int c.1, .int c.2] then Classical.choose h else (0, 0)
  have uni : ∀ t (c : Nat × Nat), SqT X.K H t [.int c.1, .int c.2] → kk (.ref t) = c := fun t c e => by
    have hx : ∃ c : Nat × Nat, ∃ t', V.ref t = .ref t' ∧ SqT X.K H t' [.int c.1, .int c.2] := ⟨c, t, rfl, e⟩
    show (if h : _ then Classical.choose h else (0, 0)) = c
    rw [dif_pos hx]
    obtain ⟨t', e1, e2⟩ := Classical.choose_spec hx
    cases e1
    have := I.tuple_inj e2 e
    simp only [List.cons.injEq, V.int.injEq, and_true] at this
    exact Prod.ext (Int.ofNat.inj this.1) (Int.ofNat.inj this.2)
  have all : ∀ x ∈ xs, ∃ t, x = V.ref t ∧ SqT X.K H t [.int (kk x).1, .int (kk x).2] := fun x hx => by
    obtain ⟨kv, m, t, rfl, e⟩ := Prs.mem prs x hx
    obtain ⟨c, _, rfl⟩ := List.mem_map.mp m
    have e' : SqT X.K H t [.int c.1, .int c.2] := e
    exact ⟨t, rfl, by rw [uni t c e']; exact e'⟩
  refine cr_sortedPT rfl pins s σ H _ us Q I r ⟨a, xs, fun x => ((kk x).1, (kk x).2), rfl, pl.sqt, all, fun ys p srt stb hp => ?_⟩
  refine q ys (ys.map kk) p ?_ ?_ ?_ hp
  · have := stb.perm.map kk
    rwa [Prs.map_eq prs uni] at this
  · refine List.pairwise_map.mpr (srt.imp fun {x y} z => ?_)
    have := SrtO.lexB_no.mp z
    show (kk x).1 ≤ (kk y).1
    have e1 : ((kk x).1 : Int) ≤ (kk y).1 := by
      simp only at this
      omega
    omega
  · rw [List.map_map]
    refine Prs.ofMap _ ys fun x hx => ?_
    exact all x (stb.perm.mem_iff.mp hx)
end
end So

set_option Elab.async false
set_option linter.all false
set_option maxRecDepth 100000
set_option maxHeartbeats 4000000
namespace K79
open PySem PySem.Spec PyProof.Rows L2 Rd Dt Dq Pk Ln En Sx Sy So
local macro_rules | `(tactic| walk_at "rd") => `(tactic| try simp only [↓Sy.tTupP_, ↓Sy.rTupP_, ↓Sy.rCatP_, ↓Sy.rSlP_, ↓Sy.rDictT_, ↓Sy.tDGet_, ↓Sy.tDGet1_, ↓Sy.tDIn_, ↓Sy.tDNotIn_, ↓Sy.tMeth_, ↓Sy.tMethKw_, ↓Sy.rSortedS_, ↓Sx.rIsT_, ↓En.tFor_enumT, ↓Sy.tFor_enumL, ↓Rv.tMakeKw_, ↓Prp.tProp_, ↓Lo.tBits_, ↓Lo.tJs_n, ↓Lo.tJs_c, ↓Lo.tFmt_, ↓Lo.gFld_, ↓Lo.tMake_, ↓Lo.rOwn_, ↓Rg.tFor_range3, ↓Rg.tLc_range3, ↓Rg.tLstC_, ↓Rg.tLc_rngV, ↓Le.rNeLE_, ↓Le.rEqLE_, ↓Ls.tLc_str, ↓Ls.sDPut_, ↓Rl.rReprL_, ↓Rl.tCallKS_, ↓Ob.tFld_, ↓Ob.sFld_, ↓tVar_, ↓tC_, ↓tM1, ↓tDNewK_, ↓tOp_, ↓tUn_, ↓rI_, ↓rI0_, ↓rU_, ↓eq_ii, ↓ne_ii, ↓eq_ss, ↓ne_ss, ↓eq_bb, ↓ne_bb, ↓tAndV_, ↓tOrV_, ↓tNotV_, ↓tIf_, ↓tTest_, ↓tB_, ↓tAnd_, ↓tOr_, ↓tNot_, ↓tChain_, ↓tNil_, ↓tCons_, ↓tTup_, ↓tLst_, ↓tCB_, ↓tCall_, ↓tSeq_, ↓tNext_, ↓tRet_, ↓tRetN_, ↓tDrop_, ↓tBreak_, ↓tNever_, ↓tIfS_, ↓tAsg_, ↓gName_, ↓gTup_, ↓gCons_, ↓gNil_, ↓gSub_, ↓tPar_, ↓tPar3_, ↓tSl_, ↓tNoPart_, ↓tPart_, ↓tBM_, ↓tFor_range1, ↓tFor_range2, ↓tFor_list, ↓tFor_tup, L2.start, List.headD_cons, List.headD_nil, List.tail_cons, List.map_cons, List.map_nil, List.length_cons, List.length_nil, List.replicate, List.append_nil, List.nil_append, List.cons_append, List.getElem?_cons_zero, List.getElem?_cons_succ, List.set_cons_zero, List.set_cons_succ, Option.some.injEq, V.int.injEq, V.bl.injEq, V.str.injEq, V.ref.injEq, exists_eq_left, exists_eq_left', exists_eq_right, exists_eq, exists_and_left, and_true, true_and, decide_eq_true_eq, Nat.reduceAdd, Nat.reduceSub, Nat.add_zero, Nat.zero_add, List.cons.injEq, Bool.not_eq_true', decide_eq_false_iff_not, eq_self, reduceCtorEq, Bool.false_eq_true, if_true, if_false, ite_true, ite_false, and_self, ↓tLc_range1, ↓tLc_range2, ↓tLc_list, ↓tLc_tup, ↓tYes_, wipe0, wipe1, ↓tCallS_, ↓rIxL_, ↓rIxT_, ↓rSlL_, ↓rCat_, ↓rSetL_, ↓rRep_, ↓rGcd_, ↓tCallK_, ↓gUnl_, ↓tRaise_, decide_true, decide_false, not_true_eq_false, not_false_eq_true, false_and, or_false, false_or, and_false, and_assoc, exists_const, forall_const, forall_eq'])
section
variable {P : Program} {w : World} {K : PySem.W.Frag} {mg : Str → Option Value} {base : Heap}
/-! ### stores looked at; parts -/
theorem make_same {H H2 : Hp} {x dx : Addr} {o o2 : HO} (h1 : H x = none) (h2 : H dx = none) (b : But x (upd (upd H dx o) x o2) H2) : Same H H2 := fun a v e => by
  have n1 : a ≠ x := fun z => by rw [z, h1] at e; cases e
  have n2 : a ≠ dx := fun z => by rw [z, h2] at e; cases e
  exact b a v n1 (by rw [upd_ne n1, upd_ne n2]; exact e)
theorem PrsAt.make {H : Hp} {x dx : Addr} {o o2 : HO} (h1 : H x = none) (h2 : H dx = none) {a : Addr} {kvs : List (Key × V)} (h : PrsAt K H a kvs) : PrsAt K (upd (upd H dx o) x o2) a kvs := h.up (make_same h1 h2 But.refl)
theorem kit_self {C : Addr} : PySem.W.kitOne K (.ref C) (.ref C) = some true := by unfold PySem.W.kitOne; rw [if_pos (by exact beq_self_eq_true _)]
def spChk (K : PySem.W.Frag) (C : Addr) : Sp := fun vs H Q _ => ∃ (r : Addr) (ns cs : List (Nat × Nat)), vs = [.ref r] ∧ StA K C H r ns cs ∧ Q .non H
theorem sc_chk : FnScope ["value"] ["value"] (defScope (top 23)) := ⟨rfl, rfl, rfl, by decide +kernel, rfl, by decide +kernel, by decide +kernel⟩
theorem ok_chk {f C fi : Addr} {fd : FuncData} (T : Tx mg) (L : StM K mg C fi) (F : FD K "check_store" (top 23) f fd) : FnOk P w K mg base CX0 1 f fd ["value"] (spChk K C) := by
  refine F.ok sc_chk (fun vs H Q E h => ?_) (fun cdv A outer s H vs Q E hr h => ?_)
  · obtain ⟨_, _, _, rfl, _⟩ := h
    rfl
  · obtain ⟨r, ns, cs, rfl, ⟨dx, an, ac, dp, da, hr0, _⟩, k⟩ := h
    have nd := sc_chk.nd
    refine ⟨_, (pss_one (ps_if (pt_not (pt_val (pe_callB call_isi (by rfl) T.b_isinstance (by decide +kernel) (pa_cons (pv 0) (pa_cons (pe_glob (v := .ref C) rfl L.g rfl) pa_nil))))) (pss_one ps_never) pss_nil)), ?_⟩
    walk_at "rd"
    exact ⟨_, _, .ref C, .ref C, true, rfl, .own C, .base (.ins hr0 L.own.cl L.own.ha L.own.hn L.own.ht L.own.hm), kit_self, true, rfl, k⟩
def cpP (H0 : Hp) (r pa : Addr) (ps : List Nat) (i : Nat) : L2.St → Hp → Prop := fun σ H => Same H0 H ∧ ∃ (l : Nat) (x y : Option V), (∀ c, ps[i]? = some c → l < c) ∧ σ = [some (.ref r), some (.ref pa), some (.int l), x, y]
abbrev vN (p : Nat) : V := .int p
def spCp (K : PySem.W.Frag) (C : Addr) : Sp := fun vs H Q _ => ∃ (r pa : Addr) (ns cs : List (Nat × Nat)) (ps : List Nat), vs = [.ref r, .ref pa] ∧ StA K C H r ns cs ∧ SqT K H pa (ps.map vN) ∧ ps.Pairwise (· < ·) ∧ (∀ p ∈ ps, 1 ≤ p ∧ p ≤ 999 ∧ (look cs p).isSome = true) ∧ ∀ H', Same H H' → Q .non H'
def selC (ps : List Nat) (b : Bool) (cs : List (Nat × Nat)) : List (Nat × Nat) := cs.filter fun c => decide (c.1 ∈ ps) == b
theorem selC_ok {ps : List Nat} {b : Bool} {cs : List (Nat × Nat)} (h : ClOk cs) : ClOk (selC ps b cs) :=
  ⟨Nat.le_trans (List.length_filter_le _ _) h.1, fun c hc => h.2.1 c (List.mem_filter.mp hc).1, h.2.2.sublist List.filter_sublist⟩
/-- the chosen places as a dict -/
def chK (p : Nat) : Key × V := (.inl p, .bl true)
theorem ch_look (ps : List Nat) (k : Nat) : (valV (ps.map chK) (.inl (k : Int) : Key)).isSome = decide (k ∈ ps) := by
  unfold valV
  rw [Option.isSome_map, List.find?_map, Option.isSome_map, Bool.eq_iff_iff, List.find?_isSome, decide_eq_true_eq]
  constructor
  · rintro ⟨x, hx, e⟩
    have : (Sum.inl (x : Int) : Key) = .inl (k : Int) := of_decide_eq_true e
    injection this with this
    rw [← Int.ofNat.inj this]
    exact hx
  · intro hx
    exact ⟨k, hx, decide_eq_true rfl⟩
theorem ch_merge {ps : List Nat} (h : ps.Pairwise (· < ·)) : mergeK [] (ps.map chK) = ps.map chK :=
  merge_new _ [] (fun _ hx => nomatch hx) (List.pairwise_map.mpr (h.imp fun {a b} q z => by
    have : (Sum.inl (a : Int) : Key) = .inl (b : Int) := z
    injection this with this
    omega))
def spPart (K : PySem.W.Frag) (C : Addr) : Sp := fun vs H Q _ => ∃ (r pa : Addr) (b : Bool) (ns cs : List (Nat × Nat)) (ps : List Nat), vs = [.ref r, .ref pa, .bl b] ∧ StA K C H r ns cs ∧ SqT K H pa (ps.map vN) ∧ ps.length ≤ 500 ∧ ps.Pairwise (· < ·) ∧
  ∀ (r' : Addr) (H' : Hp), Same H H' → StA K C H' r' ns (selC ps b cs) → Q (.ref r') H'
def spPw (K : PySem.W.Frag) (C : Addr) (b : Bool) : Sp := fun vs H Q _ => ∃ (r pa : Addr) (ns cs : List (Nat × Nat)) (ps : List Nat), vs = [.ref r, .ref pa] ∧ StA K C H r ns cs ∧ SqT K H pa (ps.map vN) ∧ ps.length ≤ 500 ∧ ps.Pairwise (· < ·) ∧ (∀ p ∈ ps, 1 ≤ p ∧ p ≤ 999 ∧ (look cs p).isSome = true) ∧
  ∀ (r' : Addr) (H' : Hp), Same H H' → StA K C H' r' ns (selC ps b cs) → Q (.ref r') H'
end
end K79

set_option Elab.async false
set_option linter.all false
set_option maxRecDepth 100000
set_option maxHeartbeats 4000000
namespace K79
open PySem PySem.Spec PyProof.Rows L2 Rd Dt Dq Pk Ln En Sx Sy So
local macro_rules | `(tactic| walk_at "rd") => `(tactic| try simp only [↓Sy.tTupP_, ↓Sy.rTupP_, ↓Sy.rCatP_, ↓Sy.rSlP_, ↓Sy.rDictT_, ↓Sy.tDGet_, ↓Sy.tDGet1_, ↓Sy.tDIn_, ↓Sy.tDNotIn_, ↓Sy.tMeth_, ↓Sy.tMethKw_, ↓Sy.rSortedS_, ↓Sx.rIsT_, ↓En.tFor_enumT, ↓Sy.tFor_enumL, ↓Rv.tMakeKw_, ↓Prp.tProp_, ↓Lo.tBits_, ↓Lo.tJs_n, ↓Lo.tJs_c, ↓Lo.tFmt_, ↓Lo.gFld_, ↓Lo.tMake_, ↓Lo.rOwn_, ↓Rg.tFor_range3, ↓Rg.tLc_range3, ↓Rg.tLstC_, ↓Rg.tLc_rngV, ↓Le.rNeLE_, ↓Le.rEqLE_, ↓Ls.tLc_str, ↓Ls.sDPut_, ↓Rl.rReprL_, ↓Rl.tCallKS_, ↓Ob.tFld_, ↓Ob.sFld_, ↓tVar_, ↓tC_, ↓tM1, ↓tDNewK_, ↓tOp_, ↓tUn_, ↓rI_, ↓rI0_, ↓rU_, ↓eq_ii, ↓ne_ii, ↓eq_ss, ↓ne_ss, ↓eq_bb, ↓ne_bb, ↓tAndV_, ↓tOrV_, ↓tNotV_, ↓tIf_, ↓tTest_, ↓tB_, ↓tAnd_, ↓tOr_, ↓tNot_, ↓tChain_, ↓tNil_, ↓tCons_, ↓tTup_, ↓tLst_, ↓tCB_, ↓tCall_, ↓tSeq_, ↓tNext_, ↓tRet_, ↓tRetN_, ↓tDrop_, ↓tBreak_, ↓tNever_, ↓tIfS_, ↓tAsg_, ↓gName_, ↓gTup_, ↓gCons_, ↓gNil_, ↓gSub_, ↓tPar_, ↓tPar3_, ↓tSl_, ↓tNoPart_, ↓tPart_, ↓tBM_, ↓tFor_range1, ↓tFor_range2, ↓tFor_list, ↓tFor_tup, L2.start, List.headD_cons, List.headD_nil, List.tail_cons, List.map_cons, List.map_nil, List.length_cons, List.length_nil, List.replicate, List.append_nil, List.nil_append, List.cons_append, List.getElem?_cons_zero, List.getElem?_cons_succ, List.set_cons_zero, List.set_cons_succ, Option.some.injEq, V.int.injEq, V.bl.injEq, V.str.injEq, V.ref.injEq, exists_eq_left, exists_eq_left', exists_eq_right, exists_eq, exists_and_left, and_true, true_and, decide_eq_true_eq, Nat.reduceAdd, Nat.reduceSub, Nat.add_zero, Nat.zero_add, List.cons.injEq, Bool.not_eq_true', decide_eq_false_iff_not, eq_self, reduceCtorEq, Bool.false_eq_true, if_true, if_false, ite_true, ite_false, and_self, ↓tLc_range1, ↓tLc_range2, ↓tLc_list, ↓tLc_tup, ↓tYes_, wipe0, wipe1, ↓tCallS_, ↓rIxL_, ↓rIxT_, ↓rSlL_, ↓rCat_, ↓rSetL_, ↓rRep_, ↓rGcd_, ↓tCallK_, ↓gUnl_, ↓tRaise_, decide_true, decide_false, not_true_eq_false, not_false_eq_true, false_and, or_false, false_or, and_false, and_assoc, exists_const, forall_const, forall_eq'])
section
variable {P : Program} {w : World} {K : PySem.W.Frag} {mg : Str → Option Value} {base : Heap}
/-! ### laid together -/
theorem asc_le {ds : List (Nat × Nat)} (h : ds.Pairwise fun x y => x.1 ≤ y.1) (n : (ds.map (·.1)).Nodup) : Asc ds := by
  have n2 : ds.Pairwise fun x y => x.1 ≠ y.1 := List.pairwise_map.mp n
  exact (h.and n2).imp fun {a b} q => by have := q.1; have := q.2; omega
theorem asc_nodup {cs : List (Nat × Nat)} (h : Asc cs) : (cs.map (·.1)).Nodup := List.pairwise_map.mpr (h.imp fun {a b} q => by omega)
theorem asc_perm {ds es : List (Nat × Nat)} (h1 : Asc ds) (h2 : Asc es) (p : ds.Perm es) : ds = es := by
  exact List.Perm.eq_of_pairwise (le := fun x y : Nat × Nat => x.1 < y.1) (fun a b _ _ q r => by omega) h1 h2 p
def spLaid (K : PySem.W.Frag) (C : Addr) : Sp := fun vs H Q _ => ∃ (r o : Addr) (ns c1 c2 ds : List (Nat × Nat)), vs = [.ref r, .ref o] ∧ StA K C H r ns c1 ∧ StA K C H o ns c2 ∧ ClOk ds ∧ ds.Perm (c1 ++ c2) ∧
  ∀ (r' : Addr) (H' : Hp), Same H H' → StA K C H' r' ns ds → Q (.ref r') H'
def noP (H : Hp) (D : Addr) (j : Nat) (H' : Hp) : Prop := Same H H' ∧ H' D = some (.lst [])
theorem look_none {cs : List (Nat × Nat)} {p : Nat} (h : ∀ c ∈ cs, c.1 ≠ p) : look cs p = none := by
  unfold look
  rw [Option.map_eq_none_iff, List.find?_eq_none]
  intro x hx
  simpa using h x hx
end
end K79

set_option Elab.async false
set_option linter.all false
set_option maxRecDepth 100000
set_option maxHeartbeats 4000000
namespace K79
open PySem PySem.Spec PyProof.Rows L2 Rd Dt Dq Pk Ln En Sx Sy So
local macro_rules | `(tactic| walk_at "rd") => `(tactic| try simp only [↓Sy.tTupP_, ↓Sy.rTupP_, ↓Sy.rCatP_, ↓Sy.rSlP_, ↓Sy.rDictT_, ↓Sy.tDGet_, ↓Sy.tDGet1_, ↓Sy.tDIn_, ↓Sy.tDNotIn_, ↓Sy.tMeth_, ↓Sy.tMethKw_, ↓Sy.rSortedS_, ↓Sx.rIsT_, ↓En.tFor_enumT, ↓Sy.tFor_enumL, ↓Rv.tMakeKw_, ↓Prp.tProp_, ↓Lo.tBits_, ↓Lo.tJs_n, ↓Lo.tJs_c, ↓Lo.tFmt_, ↓Lo.gFld_, ↓Lo.tMake_, ↓Lo.rOwn_, ↓Rg.tFor_range3, ↓Rg.tLc_range3, ↓Rg.tLstC_, ↓Rg.tLc_rngV, ↓Le.rNeLE_, ↓Le.rEqLE_, ↓Ls.tLc_str, ↓Ls.sDPut_, ↓Rl.rReprL_, ↓Rl.tCallKS_, ↓Ob.tFld_, ↓Ob.sFld_, ↓tVar_, ↓tC_, ↓tM1, ↓tDNewK_, ↓tOp_, ↓tUn_, ↓rI_, ↓rI0_, ↓rU_, ↓eq_ii, ↓ne_ii, ↓eq_ss, ↓ne_ss, ↓eq_bb, ↓ne_bb, ↓tAndV_, ↓tOrV_, ↓tNotV_, ↓tIf_, ↓tTest_, ↓tB_, ↓tAnd_, ↓tOr_, ↓tNot_, ↓tChain_, ↓tNil_, ↓tCons_, ↓tTup_, ↓tLst_, ↓tCB_, ↓tCall_, ↓tSeq_, ↓tNext_, ↓tRet_, ↓tRetN_, ↓tDrop_, ↓tBreak_, ↓tNever_, ↓tIfS_, ↓tAsg_, ↓gName_, ↓gTup_, ↓gCons_, ↓gNil_, ↓gSub_, ↓tPar_, ↓tPar3_, ↓tSl_, ↓tNoPart_, ↓tPart_, ↓tBM_, ↓tFor_range1, ↓tFor_range2, ↓tFor_list, ↓tFor_tup, L2.start, List.headD_cons, List.headD_nil, List.tail_cons, List.map_cons, List.map_nil, List.length_cons, List.length_nil, List.replicate, List.append_nil, List.nil_append, List.cons_append, List.getElem?_cons_zero, List.getElem?_cons_succ, List.set_cons_zero, List.set_cons_succ, Option.some.injEq, V.int.injEq, V.bl.injEq, V.str.injEq, V.ref.injEq, exists_eq_left, exists_eq_left', exists_eq_right, exists_eq, exists_and_left, and_true, true_and, decide_eq_true_eq, Nat.reduceAdd, Nat.reduceSub, Nat.add_zero, Nat.zero_add, List.cons.injEq, Bool.not_eq_true', decide_eq_false_iff_not, eq_self, reduceCtorEq, Bool.false_eq_true, if_true, if_false, ite_true, ite_false, and_self, ↓tLc_range1, ↓tLc_range2, ↓tLc_list, ↓tLc_tup, ↓tYes_, wipe0, wipe1, ↓tCallS_, ↓rIxL_, ↓rIxT_, ↓rSlL_, ↓rCat_, ↓rSetL_, ↓rRep_, ↓rGcd_, ↓tCallK_, ↓gUnl_, ↓tRaise_, decide_true, decide_false, not_true_eq_false, not_false_eq_true, false_and, or_false, false_or, and_false, and_assoc, exists_const, forall_const, forall_eq'])
section
variable {P : Program} {w : World} {K : PySem.W.Frag} {mg : Str → Option Value} {base : Heap}
/-! ### letters drawn -/
abbrev sL (c : Nat) : V := .str (L1 c)
theorem inV_L (c : Nat) (fs : List Nat) : inV (sL c) (fs.map sL) = decide (c ∈ fs) := by
  unfold inV
  rw [List.any_map, Bool.eq_iff_iff, List.any_eq_true, decide_eq_true_eq]
  constructor
  · rintro ⟨x, hx, e⟩
    have : eqV (sL x) (sL c) = true := e
    have e2 : L1 x = L1 c := by simpa [eqV] using this
    rw [← L1_inj e2]
    exact hx
  · intro hx
    exact ⟨c, hx, by show eqV (sL c) (sL c) = true; simp [eqV]⟩
theorem flat_L (fs : List Nat) : (fs.map sL).all flatV = true := by
  rw [List.all_map, List.all_eq_true]
  exact fun _ _ => rfl
def Lets (fs : List Nat) : Prop := fs.Nodup ∧ ∀ c ∈ fs, 97 ≤ c ∧ c ≤ 122
theorem rising_le : ∀ {xs : List Nat} {a : Nat}, risingS (L1 a) (xs.map L1) = true → (a :: xs).Pairwise (· ≤ ·)
  | [], a, _ => List.pairwise_singleton _ _
  | x :: xs, a, h => by
    rw [List.map_cons] at h
    unfold risingS at h
    rw [Bool.and_eq_true] at h
    have h2 := rising_le h.2
    have h1 : a ≤ x := by
      have := h.1
      rw [ltCps_eq, Bool.not_eq_true', decide_eq_false_iff_not] at this
      exact Decidable.by_contra fun z => this (lt_L1 (by omega))
    rw [List.pairwise_cons] at h2 ⊢
    refine ⟨fun y hy => ?_, by rw [List.pairwise_cons]; exact h2⟩
    rcases List.mem_cons.mp hy with rfl | hy
    · exact h1
    · have := h2.1 y hy
      omega
theorem sorted_L {ys : List Str} {fs : List Nat} (hp : ys.Perm (fs.map L1)) (hs : sortedS ys = true) (h : Lets fs) : ∃ cs : List Nat, ys = cs.map L1 ∧ cs.length = fs.length ∧ cs.Pairwise (· < ·) ∧ ∀ c ∈ cs, 97 ≤ c ∧ c ≤ 122 := by
  have e1 : ys = (ys.map fun s => s.cps.toList.headD 0).map L1 := by
    rw [List.map_map]
    refine (List.map_id' ys).symm.trans (List.map_congr_left fun s hs => ?_)
    obtain ⟨c, _, rfl⟩ := List.mem_map.mp (hp.mem_iff.mp hs)
    rfl
  have e2 : (ys.map fun s : Str => s.cps.toList.headD 0).Perm fs := by
    have := hp.map fun s : Str => s.cps.toList.headD 0
    rw [List.map_map] at this
    have e3 : (fs.map ((fun s : Str => s.cps.toList.headD 0) ∘ L1)) = fs := (List.map_congr_left fun c _ => rfl).trans (List.map_id' fs)
    rwa [e3] at this
  generalize (ys.map fun s : Str => s.cps.toList.headD 0) = cs at e1 e2
  subst e1
  refine ⟨cs, rfl, e2.length_eq, ?_, fun c hc => h.2 c (e2.mem_iff.mp hc)⟩
  have nd : cs.Nodup := e2.nodup_iff.mpr h.1
  have le : cs.Pairwise (· ≤ ·) := by
    cases cs with
    | nil => exact .nil
    | cons c cs => exact rising_le hs
  exact (le.and nd).imp fun {a b} q => by have := q.2; omega
def spLets : Sp := fun vs H Q _ => ∃ (u : Addr) (m : Nat), vs = [.ref u, .int m] ∧ WellAt H u ∧ m ≤ 4 ∧ ∀ (p : Addr) (cs : List Nat) (H' : Hp), But u H H' → WellAt H' u → H' p = some (.lst (cs.map sL)) → H p = none → cs.length = m → cs.Pairwise (· < ·) → (∀ c ∈ cs, 97 ≤ c ∧ c ≤ 122) → Q (.ref p) H'
def ltP (H0 : Hp) (u D : Addr) (m : Nat) (i : Nat) : L2.St → Hp → Prop := fun σ H => But u H0 H ∧ WellAt H u ∧ ∃ (fs : List Nat) (v1 v2 v3 : Option V), fs.length = i ∧ Lets fs ∧ H D = some (.lst (fs.map sL)) ∧ σ = [some (.ref u), some (.int m), some (.ref D), v1, v2, v3]
def nrP (H : Hp) (fs tk : List Nat) (D : Addr) (j : Nat) (H' : Hp) : Prop := Same H H' ∧ H' D = some (.lst (((tk.take j).filter fun c => !decide (c ∈ fs)).map sL))
theorem nrP_step {H : Hp} {fs tk : List Nat} {D : Addr} {j : Nat} {H' : Hp} (hl : tk.length ≤ 500) (h : nrP H fs tk D j H') (hD : H D = none) {c : Nat} (hc : tk[j]? = some c) :
    if (!decide (c ∈ fs)) = true then ∃ acc, H' D = some (.lst acc) ∧ acc.length < sizeLine ∧ nrP H fs tk D (j + 1) (upd H' D (.lst (acc ++ [sL c]))) else nrP H fs tk D (j + 1) H' := by
  obtain ⟨hs, hL⟩ := h
  have zl : (1000000 : Nat) ≤ sizeLine := line_big
  have e1 : (tk.take (j + 1)).filter (fun c => !decide (c ∈ fs)) = (tk.take j).filter (fun c => !decide (c ∈ fs)) ++ if (!decide (c ∈ fs)) = true then [c] else [] := by
    rw [List.take_succ, hc, List.filter_append]
    congr 1
    by_cases d : (!decide (c ∈ fs)) = true
    · rw [if_pos d]; simp only [Option.toList_some, List.filter_cons, d, if_true, List.filter_nil]
    · rw [if_neg d]; simp only [Option.toList_some, List.filter_cons, d, if_false, List.filter_nil, Bool.false_eq_true]
  split
  · rename_i d
    refine ⟨_, hL, ?_, fun b o e => ?_, ?_⟩
    · rw [List.length_map]
      have h1 := List.length_filter_le (fun c : Nat => !decide (c ∈ fs)) (tk.take j)
      have h2 : (List.take j tk).length ≤ tk.length := List.length_take_le' _ _
      omega
    · rw [upd_ne (ne_of_none e hD)]; exact hs b o e
    · rw [upd_same, e1, if_pos d, List.map_append]; rfl
  · rename_i d
    refine ⟨hs, ?_⟩
    rw [e1, if_neg d, List.append_nil]
    exact hL
theorem fil_len {fs tk : List Nat} (hf : fs.length < tk.length) (hd : tk.Nodup) : 1 ≤ (tk.filter fun c => !decide (c ∈ fs)).length := by
  refine Decidable.by_contra fun z => ?_
  have e : tk.filter (fun c => !decide (c ∈ fs)) = [] := List.eq_nil_of_length_eq_zero (by omega)
  have sub : ∀ c ∈ tk, c ∈ fs := fun c hc => Decidable.by_contra fun n => by
    have : c ∈ tk.filter (fun c => !decide (c ∈ fs)) := List.mem_filter.mpr ⟨hc, by simp [n]⟩
    rw [e] at this
    cases this
  have := List.Nodup.length_le_of_subset hd sub
  omega
theorem sc_lt : FnScope ["_law_urn_here", "_law_many", "_law_found", "_law_turn", "_law_spare", "_law_each"] ["_law_urn_here", "_law_many"] (defScope (top 37)) := ⟨rfl, rfl, rfl, by decide +kernel, rfl, by decide +kernel, by decide +kernel⟩
theorem ok_lt {f : Addr} {fd : FuncData} (T : Tx mg) (F : FD K "_law_letters" (top 37) f fd) {f2 : Addr} {fd2 : FuncData}
    (C2 : Cal P w K mg base CX0 2 "_law_of" ["_law_urn_here", "_law_some"] spPick f2 fd2) : FnOk P w K mg base CX0 3 f fd ["_law_urn_here", "_law_many"] spLets := by
  obtain ⟨g_law_of, k_law_of, b_law_of, F_law_of⟩ := C2
  refine F.ok sc_lt (fun vs H Q E h => ?_) (fun cdv A outer s H vs Q E hr h => ?_)
  · obtain ⟨_, _, rfl, _⟩ := h
    rfl
  · obtain ⟨u, m, rfl, wl, hm, k⟩ := h
    have nd := sc_lt.nd
    have zl : (1000000 : Nat) ≤ sizeLine := line_big
    refine ⟨_, (pss_cons (ps_set (i := 2) nd rfl (Or.inr rfl) (pe_lst pa_nil))
        (pss_cons (ps_for (passes_of rfl) rfl (pi_range1 rfl T.b_range (pa_cons (pv 1) pa_nil)) (pg_name (i := 3) nd rfl (Or.inl rfl)) (pss_cons (ps_setLc (i := 4) (own := [("_law_each", 5)]) rfl nd rfl rfl (sw_true rfl rfl rfl (by decide +kernel)) (pi_str pe_str) (blkOk_by (N := ["_law_urn_here", "_law_many", "_law_found", "_law_turn", "_law_spare", "_law_each"]) (sc := defScope (top 37)) (by decide +kernel)) (fun _ _ _ _ _ => (pg_name (i := 5) nd rfl (Or.inl rfl))) (fun _ _ _ _ _ => (pts_one (pt_cmpR (Sy.op_notIn_seqK (K := K) rfl) (pv 5) (pv 2) rfl))) (fun _ _ _ _ _ => (pv 5)))
        (pss_one (ps_expr (pe_bm PySem.F.plainAttrs_list PySem.F.slot_list_append PySem.F.type_list_append mt_append (pv 2) (pa_cons (pe_call F_law_of (hr.mono (by omega)) rfl g_law_of k_law_of b_law_of .nil pass0 (pa_cons (pv 0) (pa_cons (pv 4) pa_nil))) pa_nil))))))
        (pss_one (ps_ret (pe_callB cr_sortedS (by rfl) T.b_sorted (by decide +kernel) (pa_cons (pv 2) pa_nil)))))), ?_⟩
    refine sq fun U hU => ?_
    walk_at "rd"
    refine ⟨by omega, fun D hD => hU _ _ ?_⟩
    clear hU
    have nDu : D ≠ u := fun z => by
      obtain ⟨_, _, _, e, _⟩ := wl
      rw [z, e] at hD
      cases hD
    refine sq fun U hU => ?_
    walk_at "rd"
    refine ⟨by omega, by omega, for_r (n := (m : Int).toNat) (ltP H u D m) ⟨But.same (same_new hD), wl.but (same_new hD), [], none, none, none, rfl, ⟨List.nodup_nil, fun _ z => nomatch z⟩, upd_same, rfl⟩ ?_ ?_⟩
    · rintro i σ H' hi ⟨hb, wl', fs, v1, v2, v3, lf, hL, hD', rfl⟩
      walk_at "rd"
      have l2 : fs.length < (Str.ofString "abcdefghijklmnopqrstuvwxyz").cps.toList.length := by
        have : (Str.ofString "abcdefghijklmnopqrstuvwxyz").cps.toList.length = 26 := by decide +kernel
        omega
      have lu2 : (Str.ofString "abcdefghijklmnopqrstuvwxyz").cps.toList.length ≤ 30 := by decide +kernel
      have d2 : (Str.ofString "abcdefghijklmnopqrstuvwxyz").cps.toList.Nodup := by decide +kernel
      have r2 : ∀ c ∈ (Str.ofString "abcdefghijklmnopqrstuvwxyz").cps.toList, 97 ≤ c ∧ c ≤ 122 := by decide +kernel
      generalize Str.ofString "abcdefghijklmnopqrstuvwxyz" = t2 at l2 lu2 d2 r2 ⊢
      refine Ls.lc_s (nrP H' fs t2.cps.toList) fun N hN0 => ⟨⟨same_new hN0, upd_same⟩, ?_, ?_⟩
      · rintro j c H1 hc hP
        unfold Lturn
        walk_at "rd"
        refine ⟨D, fs.map sL, rfl, .inl (SqL.of (hP.1 _ _ hD')), rfl, flat_L fs, ?_⟩
        rw [if_pos rfl, show inV (.str ⟨#[c]⟩) (fs.map sL) = _ from inV_L c fs]
        exact ⟨_, rfl, nrP_step (by omega) hP hN0 hc⟩
      rintro H1 ⟨s1, hN⟩
      rw [List.take_length] at hN
      have nNu : N ≠ u := fun z => by
        obtain ⟨_, _, _, e, _⟩ := wl'
        rw [z, e] at hN0
        cases hN0
      have lf1 := fil_len l2 d2
      have lf2 := List.length_filter_le (fun c : Nat => !decide (c ∈ fs)) t2.cps.toList
      refine ⟨.inl ⟨rfl, _, SqL.of (s1 _ _ hD')⟩, u, .ref N, _, rfl, wl'.but s1, fun z => nNu (by injection z), .lst hN, by rw [List.length_map]; exact lf1, by rw [List.length_map]; omega, fun y H4 b4 w4 hy => ?_⟩
      obtain ⟨c, hc, rfl⟩ := List.mem_map.mp hy
      obtain ⟨hc1, hc2⟩ := List.mem_filter.mp hc
      have hc3 : c ∉ fs := by simpa using hc2
      have hD4 := b4 _ _ nDu (s1 _ _ hD')
      refine ⟨D, _, _, rfl, rfl, hD4, by rw [List.length_map]; omega, ?_, ?_, fs ++ [c], _, _, _, by rw [List.length_append, lf]; rfl, ⟨?_, fun d hd => ?_⟩, by rw [upd_same, List.map_append]; rfl, rfl⟩
      · intro a o n e
        have nD : a ≠ D := ne_of_none e hD
        rw [upd_ne nD]
        exact b4 _ _ n (s1 _ _ (hb _ _ n e))
      · obtain ⟨q1, q2, q3, e, q4⟩ := w4
        exact ⟨q1, q2, q3, by rw [upd_ne (Ne.symm nDu)]; exact e, q4⟩
      · rw [List.nodup_append]
        refine ⟨hL.1, by simp, fun a ha b hb z => ?_⟩
        rw [List.mem_singleton.mp hb] at z
        exact hc3 (z ▸ ha)
      · rcases List.mem_append.mp hd with hd | hd
        · exact hL.2 d hd
        · rw [List.mem_singleton.mp hd]
          exact r2 c hc1
    · rintro σ H' ⟨hb, wl', fs, v1, v2, v3, lf, hL, hD', rfl⟩
      refine hU _ _ ?_
      walk_at "rd"
      refine ⟨fs.map L1, by rw [List.map_map]; exact SqL.of hD', by rw [List.length_map]; omega, fun ys p hp hs hp0 => ?_⟩
      obtain ⟨cs, rfl, e1, e2, e3⟩ := sorted_L hp hs hL
      refine k p cs _ (fun c o n e => ?_) (wl'.but (same_new hp0)) (by rw [upd_same, List.map_map]; rfl) ?_ (by omega) e2 e3
      · have e := hb _ _ n e
        rw [upd_ne (ne_of_none e hp0)]; exact e
      · cases ep : H p with
        | none => rfl
        | some o =>
          have np : p ≠ u := fun z => by
            obtain ⟨_, _, _, e, _⟩ := wl'
            rw [z, e] at hp0
            cases hp0
          rw [hb _ _ np ep] at hp0
          cases hp0
/-! ### places drawn -/
theorem inV_int (c : Int) (fs : List Int) : inV (.int c) (fs.map V.int) = decide (c ∈ fs) := by
  unfold inV
  rw [List.any_map, Bool.eq_iff_iff, List.any_eq_true, decide_eq_true_eq]
  constructor
  · rintro ⟨x, hx, e⟩
    have e2 : x = c := by simpa [eqV] using e
    rw [← e2]
    exact hx
  · intro hx
    exact ⟨c, hx, by simp [eqV]⟩
theorem flat_int (fs : List Int) : (fs.map V.int).all flatV = true := by
  rw [List.all_map, List.all_eq_true]
  exact fun _ _ => rfl
theorem flat_N (fs : List Nat) : (fs.map vN).all flatV = true := by
  rw [List.all_map, List.all_eq_true]
  exact fun _ _ => rfl
def spPlaces : Sp := fun vs H Q _ => ∃ (u : Addr) (m : Nat), vs = [.ref u, .int m] ∧ WellAt H u ∧ 1 ≤ m ∧ m ≤ 20 ∧ ∀ (p : Addr) (ps : List Nat) (H' : Hp), But u H H' → WellAt H' u → H' p = some (.lst (ps.map vN)) → H p = none → ps.length = m → (∀ c ∈ ps, 1 ≤ c ∧ c ≤ 999) → Q (.ref p) H'
def plP (H0 : Hp) (u D : Addr) (m wd : Nat) (i : Nat) : L2.St → Hp → Prop := fun σ H => But u H0 H ∧ WellAt H u ∧ ∃ (fs : List Nat) (v1 v2 v3 : Option V), fs.length = i ∧ (∀ c ∈ fs, 1 ≤ c ∧ c ≤ 999) ∧ H D = some (.lst (fs.map vN)) ∧ σ = [some (.ref u), some (.int m), some (.int wd), some (.ref D), v1, v2, v3]
theorem sc_pl : FnScope ["_law_urn_here", "_law_many", "_law_wide", "_law_found", "_law_turn", "_law_at", "_law_lap"] ["_law_urn_here", "_law_many"] (defScope (top 38)) := ⟨rfl, rfl, rfl, by decide +kernel, rfl, by decide +kernel, by decide +kernel⟩
theorem ok_pl {f : Addr} {fd : FuncData} (T : Tx mg) (F : FD K "_law_places" (top 38) f fd) {f1 f2 : Addr} {fd1 fd2 : FuncData} (C1 : Cal P w K mg base CX0 1 "_law_take" ["_law_urn_here", "_law_size"] spTake f1 fd1)
    (C2 : Cal P w K mg base CX0 2 "_law_of" ["_law_urn_here", "_law_some"] spPick f2 fd2) : FnOk P w K mg base CX0 3 f fd ["_law_urn_here", "_law_many"] spPlaces := by
  obtain ⟨g_law_take, k_law_take, b_law_take, F_law_take⟩ := C1
  obtain ⟨g_law_of, k_law_of, b_law_of, F_law_of⟩ := C2
  refine F.ok sc_pl (fun vs H Q E h => ?_) (fun cdv A outer s H vs Q E hr h => ?_)
  · obtain ⟨_, _, rfl, _⟩ := h
    rfl
  · obtain ⟨u, m, rfl, wl, hm1, hm, k⟩ := h
    have nd := sc_pl.nd
    have zl : (1000000 : Nat) ≤ sizeLine := line_big
    refine ⟨_, (pss_cons (ps_par rfl nd (i := 2) (j := 3) rfl rfl (by decide) rfl rfl (pa_cons (pe_callB (call_max2 rfl) (by rfl) T.b_max (by decide +kernel) (pa_cons (pv 1) (pa_cons (pe_call F_law_of (hr.mono (by omega)) rfl g_law_of k_law_of b_law_of .nil pass0 (pa_cons (pv 0) (pa_cons (pe_lst (pa_cons pe_int (pa_cons pe_int (pa_cons pe_int (pa_cons pe_int pa_nil))))) pa_nil))) pa_nil))) (pa_cons (pe_lst pa_nil) pa_nil)) rfl)
        (pss_cons (ps_for (passes_of rfl) rfl (pi_range1 rfl T.b_range (pa_cons (pv 1) pa_nil)) (pg_name (i := 4) nd rfl (Or.inl rfl)) (pss_cons (ps_set (i := 5) nd rfl (Or.inl rfl) (pe_op op_add pe_int (pe_call F_law_take (hr.mono (by omega)) rfl g_law_take k_law_take b_law_take .nil pass0 (pa_cons (pv 0) (pa_cons (pv 2) pa_nil)))))
        (pss_cons (ps_for (passes_of rfl) rfl (pi_range1 rfl T.b_range (pa_cons (pv 1) pa_nil)) (pg_name (i := 6) nd rfl (Or.inl rfl)) (pss_one (ps_set (i := 5) nd rfl (Or.inl rfl) (pe_ifExp (pt_cmpR op_in_seq (pv 5) (pv 3) rfl) (pe_op op_add (pe_op op_mod (pe_callTy call_int1 (by rfl) T.b_int (by decide +kernel) (pa_cons (pv 5) pa_nil)) (pv 2)) pe_int) (pv 5)))))
        (pss_one (ps_expr (pe_bm PySem.F.plainAttrs_list PySem.F.slot_list_append PySem.F.type_list_append mt_append (pv 3) (pa_cons (pv 5) pa_nil)))))))
        (pss_one (ps_ret (pv 3))))), ?_⟩
    refine sq fun U hU => ?_
    walk_at "rd"
    refine ⟨by omega, fun N hN => ?_⟩
    have nNu : N ≠ u := fun z => by
      obtain ⟨_, _, _, e, _⟩ := wl
      rw [z, e] at hN
      cases hN
    refine ⟨u, .ref N, _, rfl, wl.but (same_new hN), fun z => nNu (by injection z), .lst upd_same, by decide, by decide, fun y H1 b1 w1 hy => ?_⟩
    obtain ⟨x, rfl, x1, x2⟩ : ∃ x : Nat, y = .int x ∧ 9 ≤ x ∧ x ≤ 999 := by
      simp only [List.mem_cons, List.not_mem_nil, or_false] at hy
      rcases hy with rfl | rfl | rfl | rfl
      · exact ⟨9, rfl, by decide, by decide⟩
      · exact ⟨9, rfl, by decide, by decide⟩
      · exact ⟨40, rfl, by decide, by decide⟩
      · exact ⟨999, rfl, by decide, by decide⟩
    refine ⟨_, rfl, Nat.zero_le _, fun D hD => hU _ _ ?_⟩
    clear hU
    obtain ⟨wd, ewd, d1, d2⟩ : ∃ wd : Nat, (if (x : Int) > m then (x : Int) else m) = wd ∧ 1 ≤ wd ∧ wd ≤ 999 := by
      by_cases c : (x : Int) > m
      · rw [if_pos c]; exact ⟨x, rfl, by omega, by omega⟩
      · rw [if_neg c]; exact ⟨m, rfl, by omega, by omega⟩
    rw [ewd]
    have nDu : D ≠ u := fun z => by
      obtain ⟨_, _, _, e, _⟩ := w1
      rw [z, e] at hD
      cases hD
    have b2 : But u H H1 := fun c o n e => b1 _ _ n (same_new hN _ _ e)
    have hD0 : H D = none := by
      cases ep : H D with
      | none => rfl
      | some o => rw [b2 _ _ nDu ep] at hD; cases hD
    refine sq fun U hU => ?_
    walk_at "rd"
    refine ⟨by omega, by omega, for_r (n := (m : Int).toNat) (plP H u D m wd) ⟨b2.trans (But.same (same_new hD)), w1.but (same_new hD), [], none, none, none, rfl, fun _ z => (nomatch z), upd_same, rfl⟩ ?_ ?_⟩
    · rintro i σ H' hi ⟨hb, wl', fs, v1, v2, v3, lf, hL, hD', rfl⟩
      refine sq fun U2 hU2 => ?_
      walk_at "rd"
      refine ⟨u, wd, rfl, wl', by omega, by omega, fun d H2 b3 w3 dd0 dd1 => ⟨d, rfl, hU2 _ _ ?_⟩⟩
      clear hU2
      have hD2 := b3 _ _ nDu hD'
      refine sq fun U2 hU2 => ?_
      walk_at "rd"
      refine ⟨by omega, by omega, for_r (n := (m : Int).toNat) (fun j σ H3 => H3 = H2 ∧ ∃ (a : Nat) (v : Option V), 1 ≤ a ∧ a ≤ 999 ∧ σ = [some (.ref u), some (.int m), some (.int wd), some (.ref D), some (.int (0 + i)), some (.int a), v]) ⟨rfl, (1 + d).toNat, v3, by omega, by omega, by rw [Int.toNat_of_nonneg (by omega)]⟩ ?_ ?_⟩
      · rintro j σ H3 hj ⟨rfl, a, v, a1, a2, rfl⟩
        walk_at "rd"
        refine ⟨D, fs.map vN, rfl, .inl (SqL.of hD2), rfl, flat_N fs, _, rfl, ?_⟩
        have e0 : ((a : Int) % wd + 1) = ((a % wd + 1 : Nat) : Int) := by omega
        have e1 : a % wd < wd := Nat.mod_lt _ (by omega)
        generalize inV (V.int (a : Int)) (fs.map vN) = B
        cases B
        · exact ⟨rfl, a, a1, a2, rfl, _, rfl⟩
        · exact ⟨by omega, rfl, a % wd + 1, by omega, by omega, e0, _, rfl⟩
      · rintro σ H3 ⟨rfl, a, v, a1, a2, rfl⟩
        refine hU2 _ _ ?_
        walk_at "rd"
        refine ⟨.inl ⟨rfl, _, SqL.of hD2⟩, D, _, _, rfl, rfl, hD2, by rw [List.length_map]; omega, fun c o n e => ?_, ?_, fs ++ [a], _, _, _, by rw [List.length_append, lf]; rfl, fun c hc => ?_, by rw [upd_same, List.map_append]; rfl, rfl⟩
        · rw [upd_ne (ne_of_none e hD0)]
          exact b3 _ _ n (hb _ _ n e)
        · obtain ⟨q1, q2, q3, e, q4⟩ := w3
          exact ⟨q1, q2, q3, by rw [upd_ne (Ne.symm nDu)]; exact e, q4⟩
        · rcases List.mem_append.mp hc with hc | hc
          · exact hL c hc
          · rw [List.mem_singleton.mp hc]
            exact ⟨a1, a2⟩
    · rintro σ H' ⟨hb, wl', fs, v1, v2, v3, lf, hL, hD', rfl⟩
      refine hU _ _ ?_
      walk_at "rd"
      exact k D fs _ hb wl' hD' hD0 (by omega) hL
/-! ### a store drawn -/
theorem putK_len (kvs : List (Key × V)) (k : Key) (v : V) : (putK kvs k v).length ≤ kvs.length + 1 := by
  unfold putK
  split
  · rw [List.length_map]; omega
  · rw [List.length_append]; exact Nat.le_refl _
/-- pairs with unlike first parts, put one by one -/
def putN (ds : List (Nat × Nat)) (k v : Nat) : List (Nat × Nat) := if ds.any (fun d => decide (d.1 = k)) then ds.map (fun d => if d.1 = k then (d.1, v) else d) else ds ++ [(k, v)]
theorem putK_ck (ds : List (Nat × Nat)) (k v : Nat) : putK (ds.map ck) (.inl (k : Int)) (.int v) = (putN ds k v).map ck := by
  unfold putK putN
  have e1 : (ds.map ck).any (fun p => decide (p.1 = (.inl (k : Int) : Key))) = ds.any (fun d => decide (d.1 = k)) := by
    rw [List.any_map]
    congr 1
    funext d
    show decide ((Sum.inl (d.1 : Int) : Key) = .inl (k : Int)) = _
    rw [decide_eq_decide]
    exact ⟨fun z => by injection z with z; omega, fun z => by rw [z]⟩
  rw [e1]
  split
  · rw [List.map_map, List.map_map]
    refine List.map_congr_left fun d _ => ?_
    show (if (Sum.inl (d.1 : Int) : Key) = .inl (k : Int) then _ else _) = ck (if d.1 = k then (d.1, v) else d)
    by_cases c : d.1 = k
    · rw [if_pos c, if_pos (by rw [c])]; rfl
    · rw [if_neg c, if_neg (fun z => c (by injection z with z; omega))]
  · rw [List.map_append]; rfl
def DcOk (m : Nat) (ds : List (Nat × Nat)) : Prop := ds.length ≤ m ∧ (∀ c ∈ ds, 1 ≤ c.1 ∧ c.1 ≤ 999 ∧ c.2 ≤ 999) ∧ (ds.map (·.1)).Nodup
theorem putN_ok {m : Nat} {ds : List (Nat × Nat)} {k v : Nat} (h : DcOk m ds) (k1 : 1 ≤ k) (k2 : k ≤ 999) (v1 : v ≤ 999) : DcOk (m + 1) (putN ds k v) := by
  obtain ⟨h1, h2, h3⟩ := h
  unfold putN
  split
  · refine ⟨by rw [List.length_map]; omega, fun c hc => ?_, ?_⟩
    · obtain ⟨d, hd, rfl⟩ := List.mem_map.mp hc
      have := h2 d hd
      split
      · exact ⟨this.1, this.2.1, v1⟩
      · exact this
    · rw [List.map_map]
      have : ((fun x : Nat × Nat => x.1) ∘ fun d : Nat × Nat => if d.1 = k then (d.1, v) else d) = fun x => x.1 := by
        funext d
        show (if d.1 = k then (d.1, v) else d).1 = d.1
        split <;> rfl
      rw [this]
      exact h3
  · rename_i hn
    refine ⟨by rw [List.length_append]; exact Nat.succ_le_succ h1, fun c hc => ?_, ?_⟩
    · rcases List.mem_append.mp hc with hc | hc
      · exact h2 c hc
      · rw [List.mem_singleton.mp hc]; exact ⟨k1, k2, v1⟩
    · rw [List.map_append, List.nodup_append]
      refine ⟨h3, by simp, fun a ha b hb z => ?_⟩
      obtain ⟨d, hd, rfl⟩ := List.mem_map.mp ha
      have hb : b ∈ [k] := hb
      rw [List.mem_singleton.mp hb] at z
      exact hn (List.any_eq_true.mpr ⟨d, hd, decide_eq_true z⟩)
/-- the law's store: names and cells in dicts -/
def LSt (m : Nat) (H : Hp) (a dn dc : Addr) (ns ds : List (Nat × Nat)) : Prop := H a = some (.lst [.ref dn, .ref dc]) ∧ H dn = some (.dK (ns.map nk)) ∧ H dc = some (.dK (ds.map ck)) ∧ NmOk ns ∧ DcOk m ds
theorem cut_to {xs : List V} {i : Int} (h : 0 ≤ i ∧ i ≤ xs.length) : cutV xs none (some i) = xs.take i.toNat := by
  obtain ⟨j, rfl⟩ : ∃ j : Nat, i = j := ⟨i.toNat, by omega⟩
  unfold cutV
  rw [HT.sIx_nat, HT.sIx_none, List.drop_zero, Nat.sub_zero, Nat.min_eq_left (by omega), Int.toNat_natCast]
theorem cut_from {xs : List V} {i : Int} (h : 0 ≤ i ∧ i ≤ xs.length) : cutV xs (some i) none = xs.drop i.toNat := by
  obtain ⟨j, rfl⟩ : ∃ j : Nat, i = j := ⟨i.toNat, by omega⟩
  unfold cutV
  rw [HT.sIx_nat, HT.sIx_none, Nat.min_eq_left (by omega), List.take_of_length_le (by rw [List.length_drop]; omega), Int.toNat_natCast]
def spStore : Sp := fun vs H Q _ => ∃ (u lt : Addr) (ls : List Nat) (m : Nat), vs = [.ref u, .ref lt, .int m] ∧ WellAt H u ∧ H lt = some (.lst (ls.map sL)) ∧ 1 ≤ ls.length ∧ ls.length ≤ 4 ∧ ls.Pairwise (· < ·) ∧ (∀ c ∈ ls, 97 ≤ c ∧ c ≤ 122) ∧ m ≤ 9 ∧
  ∀ (a dn dc : Addr) (ns ds : List (Nat × Nat)) (H' : Hp), But u H H' → WellAt H' u → LSt m H' a dn dc ns ds → ns.map (·.1) = ls → a ≠ u → dn ≠ u → dc ≠ u → H dn = none → dn ≠ dc → Q (.ref a) H'
theorem sc_so : FnScope ["_law_urn_here", "_law_letters_here", "_law_most", "_law_some", "_law_spots", "_law_far", "_law_goals", "_law_names", "_law_cells", "_law_at", "_law_letter"] ["_law_urn_here", "_law_letters_here", "_law_most"] (defScope (top 39)) := ⟨rfl, rfl, rfl, by decide +kernel, rfl, by decide +kernel, by decide +kernel⟩
theorem ok_so {f : Addr} {fd : FuncData} (T : Tx mg) (F : FD K "_law_store" (top 39) f fd) {f1 f2 f3 : Addr} {fd1 fd2 fd3 : FuncData} (C1 : Cal P w K mg base CX0 1 "_law_take" ["_law_urn_here", "_law_size"] spTake f1 fd1)
    (C2 : Cal P w K mg base CX0 2 "_law_of" ["_law_urn_here", "_law_some"] spPick f2 fd2) (C3 : Cal P w K mg base CX0 3 "_law_places" ["_law_urn_here", "_law_many"] spPlaces f3 fd3) : FnOk P w K mg base CX0 4 f fd ["_law_urn_here", "_law_letters_here", "_law_most"] spStore := by
  obtain ⟨g_law_take, k_law_take, b_law_take, F_law_take⟩ := C1
  obtain ⟨g_law_of, k_law_of, b_law_of, F_law_of⟩ := C2
  obtain ⟨g_law_places, k_law_places, b_law_places, F_law_places⟩ := C3
  refine F.ok sc_so (fun vs H Q E h => ?_) (fun cdv A outer s H vs Q E hr h => ?_)
  · obtain ⟨_, _, _, _, rfl, _⟩ := h
    rfl
  · obtain ⟨u, lt, ls, m, rfl, wl, hlt, l1, l4, asc, rng, hm, k⟩ := h
    have nd := sc_so.nd
    have zl : (1000000 : Nat) ≤ sizeLine := line_big
    refine ⟨_, (pss_cons (ps_set (i := 3) nd rfl (Or.inl rfl) (pe_call F_law_places (hr.mono (by omega)) rfl g_law_places k_law_places b_law_places .nil pass0 (pa_cons (pv 0) (pa_cons (pe_op op_add pe_int (pe_call F_law_take (hr.mono (by omega)) rfl g_law_take k_law_take b_law_take .nil pass0 (pa_cons (pv 0) (pa_cons (pe_op op_add (pv 2) pe_int) pa_nil)))) pa_nil))))
        (pss_cons (ps_par rfl nd (i := 4) (j := 5) rfl rfl (by decide) rfl rfl (pa_cons (pe_slice (r := rSlL K) sl_list (pv 3) (po_some pe_int) po_none) (pa_cons (pe_slice (r := rSlL K) sl_list (pv 3) po_none (po_some pe_int)) pa_nil)) rfl)
        (pss_cons (ps_set (i := 6) nd rfl (Or.inl rfl) (pe_op op_cat (pe_op op_cat (pe_op op_cat (pe_op op_cat (pv 4) (pv 4)) (pv 4)) (pe_lst (pa_cons pe_int pa_nil))) (pe_slice (r := rSlL K) sl_list (pv 5) po_none (po_some (pe_call F_law_take (hr.mono (by omega)) rfl g_law_take k_law_take b_law_take .nil pass0 (pa_cons (pv 0) (pa_cons pe_int pa_nil)))))))
        (pss_cons (ps_par rfl nd (i := 7) (j := 8) rfl rfl (by decide) rfl rfl (pa_cons pe_dnewK (pa_cons pe_dnewK pa_nil)) rfl)
        (pss_cons (ps_for (passes_of rfl) rfl (pi_list (pv 4)) (pg_name (i := 9) nd rfl (Or.inl rfl)) (pss_one (ps_dput (hu_of hr) (pv 8) (pv 9) (pe_call F_law_of (hr.mono (by omega)) rfl g_law_of k_law_of b_law_of .nil pass0 (pa_cons (pv 0) (pa_cons (pv 6) pa_nil))) rfl)))
        (pss_cons (ps_for (passes_of rfl) rfl (pi_list (pv 1)) (pg_name (i := 10) nd rfl (Or.inl rfl)) (pss_one (ps_dput (hu_of hr) (pv 7) (pv 10) (pe_call F_law_of (hr.mono (by omega)) rfl g_law_of k_law_of b_law_of .nil pass0 (pa_cons (pv 0) (pa_cons (pe_op op_cat (pe_op op_cat (pv 4) (pv 4)) (pv 6)) pa_nil))) rfl)))
        (pss_one (ps_ret (pe_lst (pa_cons (pv 7) (pa_cons (pv 8) pa_nil))))))))))), ?_⟩
    refine sq fun U hU => ?_
    walk_at "rd"
    refine ⟨u, m + 1, rfl, wl, by omega, by omega, fun d H1 b1 w1 e0 e1 => ?_⟩
    obtain ⟨dd, rfl⟩ : ∃ dd : Nat, d = dd := ⟨d.toNat, by omega⟩
    refine ⟨_, rfl, u, 2 + dd, rfl, w1, by omega, by omega, fun p ps H2 b2 w2 hp hp0 lp rp => hU _ _ ?_⟩
    clear hU
    have npu : p ≠ u := fun z => by
      obtain ⟨_, _, _, e, _⟩ := w1
      rw [z, e] at hp0
      cases hp0
    have B2 : But u H H2 := b1.trans b2
    refine sq fun U hU => ?_
    walk_at "rd"
    refine ⟨_, SqL.of hp, fun SA hSA => ⟨_, SqL.of (by rw [upd_ne (ne_of_none hp hSA)]; exact hp), fun FA hFA => hU _ _ ?_⟩⟩
    clear hU
    rw [cut_from (by rw [List.length_map]; omega), cut_to (by rw [List.length_map]; omega), ← List.map_drop, ← List.map_take]
    have lsp : (ps.drop 2).length = dd := by rw [List.length_drop]; omega
    have lfr : (ps.take 2).length = 2 := by rw [List.length_take]; omega
    have rsp : ∀ c ∈ ps.drop 2, 1 ≤ c ∧ c ≤ 999 := fun c hc => rp c (List.mem_of_mem_drop hc)
    have rfr : ∀ c ∈ ps.take 2, 1 ≤ c ∧ c ≤ 999 := fun c hc => rp c (List.mem_of_mem_take hc)
    have i2 : (2 : Int).toNat = 2 := rfl
    rw [i2]
    have wne : ∀ N (H' : Hp), WellAt H' u → H' N = none → N ≠ u := fun N H' w' hn z => by
      obtain ⟨_, _, _, e, _⟩ := w'
      rw [z, e] at hn
      cases hn
    have eFA : H2 FA = none ∧ FA ≠ SA := by
      have e := hFA
      by_cases z : FA = SA
      · rw [z, upd_same] at e; cases e
      · rw [upd_ne z] at e; exact ⟨e, z⟩
    obtain ⟨hFA2, nFS⟩ := eFA
    have nlt : lt ≠ u := fun z => by
      obtain ⟨_, _, _, e, _⟩ := wl
      rw [z, e] at hlt
      cases ls with
      | nil => cases hlt
      | cons c r => cases hlt
    have s23 : Same H2 (upd (upd H2 SA (.lst ((ps.drop 2).map vN))) FA (.lst ((ps.take 2).map vN))) := (same_new hSA).trans (same_new (by rw [upd_ne nFS]; exact hFA2))
    have hS3 : (upd (upd H2 SA (.lst ((ps.drop 2).map vN))) FA (.lst ((ps.take 2).map vN))) SA = some (.lst ((ps.drop 2).map vN)) := by rw [upd_ne (Ne.symm nFS), upd_same]
    have hF3 : (upd (upd H2 SA (.lst ((ps.drop 2).map vN))) FA (.lst ((ps.take 2).map vN))) FA = some (.lst ((ps.take 2).map vN)) := upd_same
    have w3 := w2.but s23
    have B3 := B2.trans (But.same s23)
    have hl3 := s23 _ _ (B2 _ _ nlt hlt)
    have nSu := wne SA H2 w2 hSA
    have nFu := wne FA H2 w2 hFA2
    generalize upd (upd H2 SA (.lst ((ps.drop 2).map vN))) FA (.lst ((ps.take 2).map vN)) = H3 at hS3 hF3 w3 B3 hl3 ⊢
    generalize ps.drop 2 = sp at hS3 lsp rsp
    generalize ps.take 2 = fr at hF3 lfr rfr
    clear s23 hSA hFA hFA2 nFS hp hp0 npu w2 b2 B2 b1 w1 lp rp
    refine sq fun U hU => ?_
    walk_at "rd"
    refine ⟨_, hS3, _, hS3, by simp only [List.length_map]; omega, fun q1 hq1 => ?_⟩
    have t1 : Same H3 (upd H3 q1 (.lst (sp.map vN ++ sp.map vN))) := same_new hq1
    have f1 : upd H3 q1 (.lst (sp.map vN ++ sp.map vN)) q1 = some (.lst (sp.map vN ++ sp.map vN)) := upd_same
    generalize upd H3 q1 (.lst (sp.map vN ++ sp.map vN)) = G1 at t1 f1 ⊢
    refine ⟨_, f1, _, t1 _ _ hS3, by simp only [List.length_map, List.length_append]; omega, fun q2 hq2 => ⟨by omega, ?_⟩⟩
    have t2 : Same G1 (upd G1 q2 (.lst (sp.map vN ++ sp.map vN ++ sp.map vN))) := same_new hq2
    have f2 : upd G1 q2 (.lst (sp.map vN ++ sp.map vN ++ sp.map vN)) q2 = some (.lst (sp.map vN ++ sp.map vN ++ sp.map vN)) := upd_same
    generalize upd G1 q2 (.lst (sp.map vN ++ sp.map vN ++ sp.map vN)) = G2 at t2 f2 ⊢
    refine fun q3 hq3 => ⟨_, same_new hq3 _ _ f2, _, upd_same, by simp only [List.length_map, List.length_append, List.length_cons, List.length_nil]; omega, ?_⟩
    have t3 : Same G2 (upd G2 q3 (.lst [V.int 0])) := same_new hq3
    generalize upd G2 q3 (.lst [V.int 0]) = G3 at t3 ⊢
    have eg : sp.map vN ++ sp.map vN ++ sp.map vN ++ [V.int 0] = (sp ++ sp ++ sp ++ [0]).map vN := by simp only [List.map_append]; rfl
    rw [eg]
    refine fun q4 hq4 => ?_
    have t4 : Same G3 (upd G3 q4 (.lst ((sp ++ sp ++ sp ++ [0]).map vN))) := same_new hq4
    have f4 : upd G3 q4 (.lst ((sp ++ sp ++ sp ++ [0]).map vN)) q4 = some (.lst ((sp ++ sp ++ sp ++ [0]).map vN)) := upd_same
    generalize upd G3 q4 (.lst ((sp ++ sp ++ sp ++ [0]).map vN)) = G4 at t4 f4 ⊢
    have s34 : Same H3 G4 := ((t1.trans t2).trans t3).trans t4
    have w4 := w3.but s34
    have n4u : q4 ≠ u := wne q4 G3 (w3.but ((t1.trans t2).trans t3)) hq4
    refine ⟨u, 3, rfl, w4, by decide, by decide, fun d3 H5 b5 w5 g0 g1 => ⟨d3, rfl, _, SqL.of (b5 _ _ nFu (s34 _ _ hF3)), fun q5 hq5 => ?_⟩⟩
    rw [cut_to (by rw [List.length_map]; omega), ← List.map_take]
    have f5 := b5 _ _ n4u f4
    refine ⟨_, same_new hq5 _ _ f5, _, upd_same, by simp only [List.length_map, List.length_append, List.length_cons, List.length_nil, List.length_take]; omega, fun GA hGA => hU _ _ ?_⟩
    clear hU
    rw [← List.map_append]
    have lgs : (sp ++ sp ++ sp ++ [0] ++ fr.take d3.toNat).length ≤ 40 := by simp only [List.length_append, List.length_cons, List.length_nil, List.length_take]; omega
    have lg1 : 1 ≤ (sp ++ sp ++ sp ++ [0] ++ fr.take d3.toNat).length := by simp only [List.length_append, List.length_cons, List.length_nil]; omega
    have rgs : ∀ c ∈ sp ++ sp ++ sp ++ [0] ++ fr.take d3.toNat, c ≤ 999 := fun c hc => by
      simp only [List.mem_append, List.mem_singleton] at hc
      rcases hc with (((hc | hc) | hc) | hc) | hc
      · exact (rsp c hc).2
      · exact (rsp c hc).2
      · exact (rsp c hc).2
      · omega
      · exact (rfr c (List.mem_of_mem_take hc)).2
    generalize sp ++ sp ++ sp ++ [0] ++ fr.take d3.toNat = gs at lgs lg1 rgs ⊢
    have t6 : Same H5 (upd (upd H5 q5 (.lst ((fr.take d3.toNat).map vN))) GA (.lst (gs.map vN))) := (same_new hq5).trans (same_new hGA)
    have f6 : upd (upd H5 q5 (.lst ((fr.take d3.toNat).map vN))) GA (.lst (gs.map vN)) GA = some (.lst (gs.map vN)) := upd_same
    have nGu : GA ≠ u := wne GA _ (w5.but (same_new hq5)) hGA
    generalize upd (upd H5 q5 (.lst ((fr.take d3.toNat).map vN))) GA (.lst (gs.map vN)) = H6 at t6 f6 ⊢
    have w6 := w5.but t6
    have B6 : But u H H6 := (B3.trans (But.same s34)).trans (b5.trans (But.same t6))
    have hS6 := t6 _ _ (b5 _ _ nSu (s34 _ _ hS3))
    have hl6 := t6 _ _ (b5 _ _ nlt (s34 _ _ hl3))
    clear t6 f5 b5 w5 g0 g1 f4 t4 s34 w4 n4u t1 t2 t3 f1 f2 hq1 hq2 hq3 hq4 hq5 hGA eg hF3 lfr rfr nFu hS3 w3 B3 hl3
    refine sq fun U hU => ?_
    walk_at "rd"
    intro DN hDN0 DC hDC0
    have nDNu := wne DN H6 w6 hDN0
    have eDC : H6 DC = none ∧ DC ≠ DN := by
      have e := hDC0
      by_cases z : DC = DN
      · rw [z, upd_same] at e; cases e
      · rw [upd_ne z] at e; exact ⟨e, z⟩
    obtain ⟨hDC1, nCN⟩ := eDC
    have nDCu := wne DC H6 w6 hDC1
    have fresh : ∀ N, N ≠ u → H6 N = none → H N = none := fun N hn h6 => by
      cases ep : H N with
      | none => rfl
      | some o => rw [B6 _ _ hn ep] at h6; cases h6
    have zDN := fresh DN nDNu hDN0
    have zDC := fresh DC nDCu hDC1
    have s7 : Same H6 (upd (upd H6 DN (.dK [])) DC (.dK [])) := (same_new hDN0).trans (same_new hDC0)
    have fDN : (upd (upd H6 DN (.dK [])) DC (.dK [])) DN = some (.dK []) := by rw [upd_ne (Ne.symm nCN), upd_same]
    have fDC : (upd (upd H6 DN (.dK [])) DC (.dK [])) DC = some (.dK []) := upd_same
    refine hU _ _ ?_
    clear hU
    generalize upd (upd H6 DN (.dK [])) DC (.dK []) = H7 at s7 fDN fDC ⊢
    have nS : SA ≠ DC ∧ SA ≠ DN := ⟨ne_of_none hS6 hDC1, ne_of_none hS6 hDN0⟩
    have nG : GA ≠ DC ∧ GA ≠ DN := ⟨ne_of_none f6 hDC1, ne_of_none f6 hDN0⟩
    have nL : lt ≠ DC ∧ lt ≠ DN := ⟨ne_of_none hl6 hDC1, ne_of_none hl6 hDN0⟩
    have B7 := B6.trans (But.same s7)
    have w7 := w6.but s7
    have hS7 := s7 _ _ hS6
    have hl7 := s7 _ _ hl6
    have hG7 := s7 _ _ f6
    clear s7 hDN0 hDC0 hDC1 B6 w6 hS6 hl6 f6 fresh
    refine sq fun U hU => ?_
    walk_at "rd"
    refine ⟨⟨_, SqL.of hS7⟩, for_l (K := K) (a := SA) (xs := sp.map vN) (fun i σ H' => But u H H' ∧ WellAt H' u ∧ H' SA = some (.lst (sp.map vN)) ∧ H' lt = some (.lst (ls.map sL)) ∧ H' GA = some (.lst (gs.map vN)) ∧ H' DN = some (.dK []) ∧ ∃ (ds : List (Nat × Nat)) (x y : Option V), H' DC = some (.dK (ds.map ck)) ∧ DcOk i ds ∧ σ = [some (.ref u), some (.ref lt), some (.int m), some (.ref p), some (.ref SA), some (.ref FA), some (.ref GA), some (.ref DN), some (.ref DC), x, y]) ⟨B7, w7, hS7, hl7, hG7, fDN, [], none, none, fDC, ⟨Nat.le_refl _, fun _ z => (nomatch z), List.nodup_nil⟩, rfl⟩ (fun i σ H' _ h => SqL.of h.2.2.1) ?_ ?_⟩
    · rintro i x σ H' hi ⟨hb, wl', hS', hl', hG', hN', ds, x1, x2, hC', okd, rfl⟩
      obtain ⟨c, hc, rfl⟩ := map_at hi
      walk_at "rd"
      refine ⟨u, .ref GA, _, rfl, wl', fun z => nGu (by injection z), .lst hG', by rw [List.length_map]; exact lg1, by rw [List.length_map]; omega, fun y H1 b1 w1 hy => ?_⟩
      obtain ⟨v, hv, rfl⟩ := List.mem_map.mp hy
      have rc := rsp c (List.mem_of_getElem? hc)
      have il := (List.getElem?_eq_some_iff.mp hc).1
      have lds := okd.1
      have hC1 := b1 _ _ nDCu hC'
      refine ⟨_, .k (k := Sum.inl (c : Int)) hC1 (by rw [List.length_map]; omega), fun a o n e => ?_, ?_, ?_, ?_, ?_, ?_, putN ds c v, ?_, putN_ok okd rc.1 rc.2 (rgs v hv), _, rfl⟩
      · rw [upd_ne (ne_of_none e zDC)]
        exact b1 _ _ n (hb _ _ n e)
      · obtain ⟨q1, q2, q3, e, q4⟩ := w1
        exact ⟨q1, q2, q3, by rw [upd_ne (Ne.symm nDCu)]; exact e, q4⟩
      · rw [upd_ne nS.1]; exact b1 _ _ nSu hS'
      · rw [upd_ne nL.1]; exact b1 _ _ nlt hl'
      · rw [upd_ne nG.1]; exact b1 _ _ nGu hG'
      · rw [upd_ne (Ne.symm nCN)]; exact b1 _ _ nDNu hN'
      · rw [upd_same, putK_ck]
    · rintro σ H' ⟨hb, wl', hS', hl', hG', hN', ds, x1, x2, hC', okd, rfl⟩
      refine hU _ _ ?_
      clear hU
      refine sq fun U hU => ?_
      walk_at "rd"
      rw [List.length_map, lsp] at okd
      refine ⟨⟨_, SqL.of hl'⟩, for_l (K := K) (a := lt) (xs := ls.map sL) (fun i σ H'' => But u H H'' ∧ WellAt H'' u ∧ H'' SA = some (.lst (sp.map vN)) ∧ H'' lt = some (.lst (ls.map sL)) ∧ H'' GA = some (.lst (gs.map vN)) ∧ H'' DC = some (.dK (ds.map ck)) ∧ ∃ (ns : List (Nat × Nat)) (y : Option V), H'' DN = some (.dK (ns.map nk)) ∧ ns.map (·.1) = ls.take i ∧ (∀ n ∈ ns, n.2 ≤ 999) ∧ σ = [some (.ref u), some (.ref lt), some (.int m), some (.ref p), some (.ref SA), some (.ref FA), some (.ref GA), some (.ref DN), some (.ref DC), x1, y]) ⟨hb, wl', hS', hl', hG', hC', [], _, hN', rfl, fun _ z => (nomatch z), rfl⟩ (fun i σ H' _ h => SqL.of h.2.2.2.1) ?_ ?_⟩
      · rintro i x σ H'' hi ⟨hb, wl', hS', hl', hG', hC', ns, y, hN', en, rn, rfl⟩
        obtain ⟨c, hc, rfl⟩ := map_at hi
        walk_at "rd"
        refine ⟨_, hS', _, hS', by simp only [List.length_map]; omega, fun q1 hq1 => ⟨_, upd_same, _, same_new hq1 _ _ hG', by simp only [List.length_map, List.length_append]; omega, fun q2 hq2 => ?_⟩⟩
        have n2u : q2 ≠ u := wne q2 _ (wl'.but (same_new hq1)) hq2
        rw [← List.map_append, ← List.map_append]
        rw [← List.map_append] at hq2
        have t1 : Same H'' (upd (upd H'' q1 (.lst ((sp ++ sp).map vN))) q2 (.lst ((sp ++ sp ++ gs).map vN))) := (same_new hq1).trans (same_new hq2)
        have f1 : (upd (upd H'' q1 (.lst ((sp ++ sp).map vN))) q2 (.lst ((sp ++ sp ++ gs).map vN))) q2 = some (.lst ((sp ++ sp ++ gs).map vN)) := upd_same
        generalize upd (upd H'' q1 (.lst ((sp ++ sp).map vN))) q2 (.lst ((sp ++ sp ++ gs).map vN)) = G1 at t1 f1 ⊢
        refine ⟨u, .ref q2, _, rfl, wl'.but t1, fun z => n2u (by injection z), .lst f1, by simp only [List.length_map, List.length_append]; omega, by simp only [List.length_map, List.length_append]; omega, fun y H1 b1 w1 hy => ?_⟩
        obtain ⟨v, hv, rfl⟩ := List.mem_map.mp hy
        have rv : v ≤ 999 := by
          simp only [List.mem_append] at hv
          rcases hv with (hv | hv) | hv
          · exact (rsp v hv).2
          · exact (rsp v hv).2
          · exact rgs v hv
        have il := (List.getElem?_eq_some_iff.mp hc).1
        have lns : ns.length = i := by
          have := congrArg List.length en
          rw [List.length_map, List.length_take] at this
          omega
        have hN1 := b1 _ _ nDNu (t1 _ _ hN')
        have newc : ∀ x ∈ ns.map nk, x.1 ≠ (.inr (L1 c) : Key) := fun x hx z => by
          obtain ⟨n, hn, rfl⟩ := List.mem_map.mp hx
          have z : (Sum.inr (L1 n.1) : Key) = .inr (L1 c) := z
          injection z with z
          have e := L1_inj z
          have m1 : n.1 ∈ ls.take i := by rw [← en]; exact List.mem_map.mpr ⟨n, hn, rfl⟩
          obtain ⟨j, hj⟩ := List.mem_iff_getElem?.mp m1
          rw [List.getElem?_take] at hj
          split at hj
          · rename_i lj
            have := (List.pairwise_iff_getElem.mp asc) j i (List.getElem?_eq_some_iff.mp hj).1 il lj
            rw [(List.getElem?_eq_some_iff.mp hj).2, (List.getElem?_eq_some_iff.mp hc).2, e] at this
            omega
          · cases hj
        refine ⟨_, .k (k := Sum.inr (L1 c)) hN1 (by rw [List.length_map]; omega), fun a o n e => ?_, ?_, ?_, ?_, ?_, ?_, ns ++ [(c, v)], ?_, ?_, fun n hn => ?_, _, rfl⟩
        · rw [upd_ne (ne_of_none e zDN)]
          exact b1 _ _ n (t1 _ _ (hb _ _ n e))
        · obtain ⟨q1, q2, q3, e, q4⟩ := w1
          exact ⟨q1, q2, q3, by rw [upd_ne (Ne.symm nDNu)]; exact e, q4⟩
        · rw [upd_ne nS.2]; exact b1 _ _ nSu (t1 _ _ hS')
        · rw [upd_ne nL.2]; exact b1 _ _ nlt (t1 _ _ hl')
        · rw [upd_ne nG.2]; exact b1 _ _ nGu (t1 _ _ hG')
        · rw [upd_ne nCN]; exact b1 _ _ nDCu (t1 _ _ hC')
        · rw [upd_same, putK_new newc, List.map_append]; rfl
        · rw [List.map_append, en, List.take_succ, hc]; rfl
        · rcases List.mem_append.mp hn with hn | hn
          · exact rn n hn
          · rw [List.mem_singleton.mp hn]; exact rv
      · rintro σ H'' ⟨hb, wl', hS', hl', hG', hC', ns, y, hN', en, rn, rfl⟩
        refine hU _ _ ?_
        clear hU
        walk_at "rd"
        rw [List.length_map, List.take_length] at en
        have lns : ns.length = ls.length := by rw [← en, List.length_map]
        refine ⟨by omega, fun a ha => ?_⟩
        have nau : a ≠ u := wne a H'' wl' ha
        refine k a DN DC ns ds _ (fun b o n e => ?_) (wl'.but (same_new ha)) ⟨upd_same, same_new ha _ _ hN', same_new ha _ _ hC', ⟨by omega, by omega, fun n hn => ?_, List.pairwise_map.mp (by rw [en]; exact asc)⟩, Nat.le_trans okd.1 (by omega), okd.2⟩ en nau nDNu nDCu zDN (Ne.symm nCN)
        · exact same_new ha _ _ (hb _ _ n e)
        · have := rng n.1 (by rw [← en]; exact List.mem_map.mpr ⟨n, hn, rfl⟩)
          exact ⟨this.1, this.2, rn n hn⟩
end
end K79

set_option Elab.async false
set_option linter.all false
set_option maxRecDepth 100000
set_option maxHeartbeats 2000000
/-! pairs in the order of their first parts; a store's text in one join -/
namespace Sr
open PySem PySem.Spec PyProof.Rows L2 Rd Dt Pk Ln En Sx TL
theorem joinL_app (S : List Nat) (b : List (List Nat)) (hb : b ≠ []) : ∀ a : List (List Nat), a ≠ [] → joinL S (a ++ b) = joinL S a ++ (S ++ joinL S b)
  | [], h => absurd rfl h
  | [x], _ => by
    cases b with
    | nil => exact absurd rfl hb
    | cons y r => rfl
  | x :: y :: r, _ => by
    have ih := joinL_app S b hb (y :: r) (by simp)
    show x ++ (S ++ joinL S (y :: r ++ b)) = x ++ (S ++ joinL S (y :: r)) ++ (S ++ joinL S b)
    rw [ih]
    simp only [List.append_assoc]
theorem store_join {ns cs : List (Nat × Nat)} (h : ns ≠ []) : Txt.join " " (ns.map nameW ++ [("|" : Str)] ++ (if cs = [] then [("none" : Str)] else cs.map cellW)) = storeT ns cs := by
  refine ext_tl ?_
  have hm : (ns.map nameW).map tl ≠ [] := by simp [h]
  unfold storeT namesT cellsT
  rw [join_eq, tl_join, tl_append, tl_append, join_eq, tl_join, List.map_append, List.map_append, List.append_assoc, joinL_app _ _ (by simp) _ hm]
  have e1 : tl " " = [32] := by decide +kernel
  have e2 : tl "|" = [124] := by decide +kernel
  rw [e1, tl_bar]
  by_cases c : cs = []
  · rw [if_pos c, if_pos c]
    show _ ++ ([32] ++ (tl "|" ++ ([32] ++ tl "none"))) = _
    rw [e2]
    simp only [List.append_assoc, List.cons_append, List.nil_append]
  · rw [if_neg c, if_neg c, join_eq, tl_join, e1]
    have e3 : (cs.map cellW).map tl ≠ [] := by simp [c]
    rw [joinL_app _ _ e3 _ (by simp)]
    show _ ++ ([32] ++ (tl "|" ++ ([32] ++ _))) = _
    rw [e2]
    simp only [List.append_assoc, List.cons_append, List.nil_append]
/-- the pairs in order -/
def srt (ds : List (Nat × Nat)) : List (Nat × Nat) := ds.mergeSort fun a b => decide (a.1 ≤ b.1)
theorem srt_perm (ds : List (Nat × Nat)) : (srt ds).Perm ds := List.mergeSort_perm _ _
theorem srt_le (ds : List (Nat × Nat)) : (srt ds).Pairwise fun a b => a.1 ≤ b.1 :=
  (List.pairwise_mergeSort (le := fun a b : Nat × Nat => decide (a.1 ≤ b.1)) (fun a b c h1 h2 => by simp only [decide_eq_true_eq] at *; omega) (fun a b => by simp only [Bool.or_eq_true, decide_eq_true_eq]; omega) ds).imp fun {a b} h => of_decide_eq_true h
theorem srt_asc {ds : List (Nat × Nat)} (h : (ds.map (·.1)).Nodup) : Asc (srt ds) := by
  have n : ((srt ds).map (·.1)).Nodup := ((srt_perm ds).map _).nodup_iff.mpr h
  have n2 : (srt ds).Pairwise fun x y => x.1 ≠ y.1 := List.pairwise_map.mp n
  exact ((srt_le ds).and n2).imp fun {a b} q => by have := q.1; have := q.2; omega
theorem srt_keys {ds : List (Nat × Nat)} {ys : List Int} (p : ys.Perm (ds.map fun d => (d.1 : Int))) (h : ys.Pairwise (· ≤ ·)) : ys = (srt ds).map fun d => (d.1 : Int) := by
  refine List.Perm.eq_of_pairwise (le := fun x y : Int => x ≤ y) (fun a b _ _ q r => by omega) h ?_ (p.trans ((srt_perm ds).symm.map _))
  exact List.pairwise_map.mpr ((srt_le ds).imp fun {a b} q => by omega)
theorem srt_len (ds : List (Nat × Nat)) : (srt ds).length = ds.length := (srt_perm ds).length_eq
theorem srt_nil {ds : List (Nat × Nat)} : srt ds = [] ↔ ds = [] := by
  rw [← List.length_eq_zero_iff, ← List.length_eq_zero_iff, srt_len]
theorem asc_uniq {ds es : List (Nat × Nat)} (h1 : Asc ds) (h2 : Asc es) (p : ds.Perm es) : ds = es :=
  List.Perm.eq_of_pairwise (le := fun x y : Nat × Nat => x.1 < y.1) (fun a b _ _ q r => by omega) h1 h2 p
theorem srt_asc_id {ds : List (Nat × Nat)} (h : Asc ds) : srt ds = ds :=
  asc_uniq (srt_asc (List.pairwise_map.mpr (h.imp fun {a b} q => by omega))) h (srt_perm ds)
theorem look_mem : ∀ {ds : List (Nat × Nat)}, (ds.map (·.1)).Nodup → ∀ {d : Nat × Nat}, d ∈ ds → look ds d.1 = some d.2
  | c :: ds, h, d, hd => by
    rw [List.map_cons, List.nodup_cons] at h
    unfold look
    rw [List.find?_cons]
    by_cases e : c.1 = d.1
    · rw [decide_eq_true e]
      rcases List.mem_cons.mp hd with rfl | hd
      · rfl
      · exact absurd (List.mem_map.mpr ⟨d, hd, e.symm⟩) h.1
    · rw [decide_eq_false e]
      rcases List.mem_cons.mp hd with rfl | hd
      · exact absurd rfl e
      · exact look_mem h.2 hd
theorem look_none {cs : List (Nat × Nat)} {p : Nat} : look cs p = none ↔ ∀ c ∈ cs, c.1 ≠ p := by
  unfold look
  rw [Option.map_eq_none_iff, List.find?_eq_none]
  constructor
  · intro h c hc
    simpa using h c hc
  · intro h c hc
    simpa using h c hc
theorem look_some {cs : List (Nat × Nat)} {p : Nat} : (look cs p).isSome = true ↔ ∃ c ∈ cs, c.1 = p := by
  constructor
  · intro h
    refine Decidable.by_contra fun z => ?_
    have : look cs p = none := look_none.mpr fun c hc e => z ⟨c, hc, e⟩
    rw [this] at h
    cases h
  · rintro ⟨c, hc, e⟩
    cases el : look cs p with
    | none => exact absurd e (look_none.mp el c hc)
    | some v => rfl
end Sr

set_option Elab.async false
set_option linter.all false
set_option maxRecDepth 100000
set_option maxHeartbeats 4000000
namespace K79
open PySem PySem.Spec PyProof.Rows L2 Rd Dt Dq Pk Ln En Sx Sy So Sr
local macro_rules | `(tactic| walk_at "rd") => `(tactic| try simp only [↓Sy.tTupP_, ↓Sy.rTupP_, ↓Sy.rCatP_, ↓Sy.rSlP_, ↓Sy.rDictT_, ↓Sy.tDGet_, ↓Sy.tDGet1_, ↓Sy.tDIn_, ↓Sy.tDNotIn_, ↓Sy.tMeth_, ↓Sy.tMethKw_, ↓Sy.rSortedS_, ↓Sx.rIsT_, ↓En.tFor_enumT, ↓Sy.tFor_enumL, ↓Rv.tMakeKw_, ↓Prp.tProp_, ↓Lo.tBits_, ↓Lo.tJs_n, ↓Lo.tJs_c, ↓Lo.tFmt_, ↓Lo.gFld_, ↓Lo.tMake_, ↓Lo.rOwn_, ↓Rg.tFor_range3, ↓Rg.tLc_range3, ↓Rg.tLstC_, ↓Rg.tLc_rngV, ↓Le.rNeLE_, ↓Le.rEqLE_, ↓Ls.tLc_str, ↓Ls.sDPut_, ↓Rl.rReprL_, ↓Rl.tCallKS_, ↓Ob.tFld_, ↓Ob.sFld_, ↓tVar_, ↓tC_, ↓tM1, ↓tDNewK_, ↓tOp_, ↓tUn_, ↓rI_, ↓rI0_, ↓rU_, ↓eq_ii, ↓ne_ii, ↓eq_ss, ↓ne_ss, ↓eq_bb, ↓ne_bb, ↓tAndV_, ↓tOrV_, ↓tNotV_, ↓tIf_, ↓tTest_, ↓tB_, ↓tAnd_, ↓tOr_, ↓tNot_, ↓tChain_, ↓tNil_, ↓tCons_, ↓tTup_, ↓tLst_, ↓tCB_, ↓tCall_, ↓tSeq_, ↓tNext_, ↓tRet_, ↓tRetN_, ↓tDrop_, ↓tBreak_, ↓tNever_, ↓tIfS_, ↓tAsg_, ↓gName_, ↓gTup_, ↓gCons_, ↓gNil_, ↓gSub_, ↓tPar_, ↓tPar3_, ↓tSl_, ↓tNoPart_, ↓tPart_, ↓tBM_, ↓tFor_range1, ↓tFor_range2, ↓tFor_list, ↓tFor_tup, L2.start, List.headD_cons, List.headD_nil, List.tail_cons, List.map_cons, List.map_nil, List.length_cons, List.length_nil, List.replicate, List.append_nil, List.nil_append, List.cons_append, List.getElem?_cons_zero, List.getElem?_cons_succ, List.set_cons_zero, List.set_cons_succ, Option.some.injEq, V.int.injEq, V.bl.injEq, V.str.injEq, V.ref.injEq, exists_eq_left, exists_eq_left', exists_eq_right, exists_eq, exists_and_left, and_true, true_and, decide_eq_true_eq, Nat.reduceAdd, Nat.reduceSub, Nat.add_zero, Nat.zero_add, List.cons.injEq, Bool.not_eq_true', decide_eq_false_iff_not, eq_self, reduceCtorEq, Bool.false_eq_true, if_true, if_false, ite_true, ite_false, and_self, ↓tLc_range1, ↓tLc_range2, ↓tLc_list, ↓tLc_tup, ↓tYes_, wipe0, wipe1, ↓tCallS_, ↓rIxL_, ↓rIxT_, ↓rSlL_, ↓rCat_, ↓rSetL_, ↓rRep_, ↓rGcd_, ↓tCallK_, ↓gUnl_, ↓tRaise_, decide_true, decide_false, not_true_eq_false, not_false_eq_true, false_and, or_false, false_or, and_false, and_assoc, exists_const, forall_const, forall_eq'])
section
variable {P : Program} {w : World} {K : PySem.W.Frag} {mg : Str → Option Value} {base : Heap}
/-! ### the law's text, its store, its parts -/
def spTxt : Sp := fun vs H Q _ => ∃ (m : Nat) (a dn dc : Addr) (ns ds : List (Nat × Nat)), vs = [.ref a] ∧ LSt m H a dn dc ns ds ∧ m ≤ 10 ∧ ∀ H', Same H H' → Q (.str (storeT ns (srt ds))) H'
theorem DcOk.cl {m : Nat} {ds : List (Nat × Nat)} (h : DcOk m ds) (hm : m ≤ 10) : ClOk (srt ds) := ⟨by rw [srt_len]; have := h.1; omega, fun c hc => h.2.1 c ((srt_perm ds).mem_iff.mp hc), srt_asc h.2.2⟩
theorem sorted_names {ns : List (Nat × Nat)} (h : NmOk ns) {ys : List Str} (p : ys.Perm (ns.map fun n => L1 n.1)) (s : sortedS ys = true) : ys = ns.map fun n => L1 n.1 := by
  have e0 : (ns.map fun n => L1 n.1) = (ns.map (·.1)).map L1 := by rw [List.map_map]; rfl
  have asc : (ns.map (·.1)).Pairwise (· < ·) := List.pairwise_map.mpr h.2.2.2
  rw [e0] at p ⊢
  obtain ⟨cs, rfl, e1, e2, _⟩ := sorted_L p s ⟨asc.imp fun {a b} q => by omega, fun c hc => by
    obtain ⟨n, hn, rfl⟩ := List.mem_map.mp hc
    have := h.2.2.1 n hn
    exact ⟨this.1, this.2.1⟩⟩
  have q := p.map fun s : Str => s.cps.toList.headD 0
  rw [List.map_map, List.map_map] at q
  have e3 : ∀ l : List Nat, l.map ((fun s : Str => s.cps.toList.headD 0) ∘ L1) = l := fun l => (List.map_congr_left fun c _ => rfl).trans (List.map_id' l)
  rw [e3, e3] at q
  rw [List.Perm.eq_of_pairwise (le := fun x y : Nat => x < y) (fun a b _ _ q r => by omega) e2 asc q]
theorem get_n {H : Hp} {dn : Addr} {ns : List (Nat × Nat)} (h : H dn = some (.dK (ns.map nk))) (asc : Asc ns) {n : Nat × Nat} (hn : n ∈ ns) : DGet H dn (.str (L1 n.1)) (some (.int n.2)) := by
  have := DGet.k (k := Sum.inr (L1 n.1)) h
  rw [val_n, look_mem (asc_nodup asc) hn] at this
  exact this
theorem get_d {H : Hp} {dc : Addr} {ds : List (Nat × Nat)} (h : H dc = some (.dK (ds.map ck))) (nd : (ds.map (·.1)).Nodup) {d : Nat × Nat} (hd : d ∈ ds) : DGet H dc (.int d.1) (some (.int d.2)) := by
  have := get_c h d.1
  rw [look_mem nd hd] at this
  exact this
theorem keys_n (ns : List (Nat × Nat)) : (ns.map nk).map (·.1) = (ns.map fun n => L1 n.1).map (Sum.inr : Str → Key) := by rw [List.map_map, List.map_map]; rfl
theorem keys_c (ds : List (Nat × Nat)) : (ds.map ck).map (·.1) = (ds.map fun d => (d.1 : Int)).map (Sum.inl : Int → Key) := by rw [List.map_map, List.map_map]; rfl
theorem sc_txt : FnScope ["_law_store_here", "_law_names", "_law_cells", "_law_letter", "_law_at"] ["_law_store_here"] (defScope (top 40)) := ⟨rfl, rfl, rfl, by decide +kernel, rfl, by decide +kernel, by decide +kernel⟩
theorem ok_txt {f : Addr} {fd : FuncData} (T : Tx mg) (F : FD K "_law_text" (top 40) f fd) : FnOk P w K mg base CX0 1 f fd ["_law_store_here"] spTxt := by
  refine F.ok sc_txt (fun vs H Q E h => ?_) (fun cdv A outer s H vs Q E hr h => ?_)
  · obtain ⟨_, _, _, _, _, _, rfl, _⟩ := h
    rfl
  · obtain ⟨m, a, dn, dc, ns, ds, rfl, ⟨ha, hdn, hdc, okn, okd⟩, hm, k⟩ := h
    have nd := sc_txt.nd
    have zl : (1000000 : Nat) ≤ sizeLine := line_big
    refine ⟨_, (pss_cons (ps_setLc (i := 1) (own := [("_law_letter", 3)]) rfl nd rfl rfl (sw_true rfl rfl rfl (by decide +kernel)) (pi_list (pe_callB (call_sortedD rfl) (by rfl) T.b_sorted (by decide +kernel) (pa_cons (pe_ix (r := rIxL K) ix_list (pv 0) pe_int (fun _ _ => rfl)) pa_nil))) (blkOk_by (N := ["_law_store_here", "_law_names", "_law_cells", "_law_letter", "_law_at"]) (sc := defScope (top 40)) (by decide +kernel)) (fun _ _ _ _ _ => (pg_name (i := 3) nd rfl (Or.inl rfl))) (fun _ _ _ _ _ => pts_nil) (fun _ _ _ _ _ => (pe_op op_add_str (pe_op op_add_str (pv 3) pe_str) (pe_callTy call_str_int (by rfl) T.b_str (by decide +kernel) (pa_cons (pe_dget (hu_of hr) (pe_ix (r := rIxL K) ix_list (pv 0) pe_int (fun _ _ => rfl)) (pv 3) (fun _ _ => rfl)) pa_nil)))))
        (pss_cons (ps_setLc (i := 2) (own := [("_law_at", 4)]) rfl nd rfl rfl (sw_true rfl rfl rfl (by decide +kernel)) (pi_list (pe_callB (call_sortedDI rfl) (by rfl) T.b_sorted (by decide +kernel) (pa_cons (pe_ix (r := rIxL K) ix_list (pv 0) pe_int (fun _ _ => rfl)) pa_nil))) (blkOk_by (N := ["_law_store_here", "_law_names", "_law_cells", "_law_letter", "_law_at"]) (sc := defScope (top 40)) (by decide +kernel)) (fun _ _ _ _ _ => (pg_name (i := 4) nd rfl (Or.inl rfl))) (fun _ _ _ _ _ => pts_nil) (fun _ _ _ _ _ => (pe_op op_add_str (pe_op op_add_str (pe_callTy call_str_int (by rfl) T.b_str (by decide +kernel) (pa_cons (pv 4) pa_nil)) pe_str) (pe_callTy call_str_int (by rfl) T.b_str (by decide +kernel) (pa_cons (pe_dget (hu_of hr) (pe_ix (r := rIxL K) ix_list (pv 0) pe_int (fun _ _ => rfl)) (pv 4) (fun _ _ => rfl)) pa_nil)))))
        (pss_one (ps_ret (pe_join pe_str (pe_op op_cat (pe_op op_cat (pv 1) (pe_lst (pa_cons pe_str pa_nil))) (pe_ifExp (pt_cmpR (Le.op_neLEK (K := K) rfl hr.units) (pv 2) (pe_lst pa_nil) (nomark _)) (pv 2) (pe_lst (pa_cons pe_str pa_nil))))))))), ?_⟩
    refine sq fun U hU => ?_
    walk_at "rd"
    have ln := okn.2.1
    refine ⟨_, SqL.of ha, _, rfl, dn, rfl, _, .inl hdn, _, keys_n ns, by rw [List.length_map]; omega, fun ys p py sy hp => ?_⟩
    rw [sorted_names okn py sy]
    have s1 : Same H (upd H p (.lst ((ns.map fun n => L1 n.1).map V.str))) := same_new hp
    have f1 : upd H p (.lst ((ns.map fun n => L1 n.1).map V.str)) p = some (.lst ((ns.map fun n => L1 n.1).map V.str)) := upd_same
    generalize upd H p (.lst ((ns.map fun n => L1 n.1).map V.str)) = H1 at s1 f1 ⊢
    refine ⟨⟨_, SqL.of f1⟩, lc_l (xs := (ns.map fun n => L1 n.1).map V.str) (txP H1 nameW ns) fun D hD => ⟨⟨same_new hD, upd_same⟩, fun j H6 _ hP => SqL.of (hP.1 _ _ f1), ?_, ?_⟩⟩
    · rintro j y H6 hy hP
      obtain ⟨x, hx, rfl⟩ := map_at hy
      obtain ⟨n, hn, rfl⟩ := map_at hx
      obtain ⟨b1, b2, b3⟩ := okn.2.2.1 n (List.mem_of_getElem? hn)
      unfold Lturn
      walk_at "rd"
      have l1 := nlen b3
      have e1 : (L1 n.1).length = 1 := rfl
      have e2 : (Str.ofString "=").length = 1 := by decide
      have en : Str.ofString (toString (n.2 : Int)) = numT n.2 := rfl
      exact ⟨by omega, _, SqL.of (hP.1 _ _ (s1 _ _ ha)), _, rfl, dn, rfl, _, get_n (hP.1 _ _ (s1 _ _ hdn)) okn.2.2.2 (List.mem_of_getElem? hn), _, rfl, lg (by omega), by rw [Str.length_append, en]; omega, txP_step (by omega) hP hD hn _ rfl⟩
    · rintro H6 ⟨hs, hL⟩
      rw [List.length_map, List.length_map, List.take_length] at hL
      refine hU _ _ ?_
      clear hU
      have s6 : Same H H6 := s1.trans hs
      have okc := okd.cl hm
      have lc := okd.1
      refine sq fun U hU => ?_
      walk_at "rd"
      refine ⟨_, SqL.of (s6 _ _ ha), _, rfl, dc, rfl, _, .inl (s6 _ _ hdc), _, keys_c ds, by rw [List.length_map]; omega, fun ys p py sy hp => ?_⟩
      rw [srt_keys py sy]
      have s7 : Same H6 (upd H6 p (.lst (((srt ds).map fun d => (d.1 : Int)).map V.int))) := same_new hp
      have f7 : upd H6 p (.lst (((srt ds).map fun d => (d.1 : Int)).map V.int)) p = some (.lst (((srt ds).map fun d => (d.1 : Int)).map V.int)) := upd_same
      generalize upd H6 p (.lst (((srt ds).map fun d => (d.1 : Int)).map V.int)) = H7 at s7 f7 ⊢
      refine ⟨⟨_, SqL.of f7⟩, lc_l (xs := ((srt ds).map fun d => (d.1 : Int)).map V.int) (txP H7 cellW (srt ds)) fun D2 hD2 => ⟨⟨same_new hD2, upd_same⟩, fun j H8 _ hP => SqL.of (hP.1 _ _ f7), ?_, ?_⟩⟩
      · rintro j y H8 hy hP
        obtain ⟨x, hx, rfl⟩ := map_at hy
        obtain ⟨c, hc, rfl⟩ := map_at hx
        have mc := List.mem_of_getElem? hc
        obtain ⟨b1, b2, b3⟩ := okc.2.1 c mc
        have s8 := s6.trans (s7.trans hP.1)
        unfold Lturn
        walk_at "rd"
        have l1 := nlen b3
        have l2 := nlen b2
        have e2 : (Str.ofString ">").length = 1 := by decide
        have e1 : Str.ofString (toString (c.1 : Int)) = numT c.1 := rfl
        have e3 : Str.ofString (toString (c.2 : Int)) = numT c.2 := rfl
        refine ⟨lg (by omega), by rw [e1]; omega, _, SqL.of (s8 _ _ ha), _, rfl, dc, rfl, _, get_d (s8 _ _ hdc) okd.2.2 ((srt_perm ds).mem_iff.mp mc), _, rfl, lg (by omega), by rw [Str.length_append, e1, e3]; omega, txP_step okc.1 hP hD2 hc _ rfl⟩
      · rintro H8 ⟨hs8, hL8⟩
        rw [List.length_map, List.length_map, List.take_length] at hL8
        refine hU _ _ ?_
        clear hU
        have s8 : Same H6 H8 := s7.trans hs8
        have hL6 := s8 _ _ hL
        walk_at "rd"
        have hne : ns ≠ [] := fun z => by have := okn.1; rw [z] at this; exact absurd this (by decide)
        refine ⟨⟨_, rfl⟩, by omega, fun q1 hq1 => ⟨_, same_new hq1 _ _ hL6, _, upd_same, by simp only [List.length_map, List.length_cons, List.length_nil]; omega, ?_⟩⟩
        have t1 : Same H8 (upd H8 q1 (.lst [V.str (Str.ofString "|")])) := same_new hq1
        generalize upd H8 q1 (.lst [V.str (Str.ofString "|")]) = G1 at t1 ⊢
        have eg : (ns.map nameW).map V.str ++ [V.str (Str.ofString "|")] = (ns.map nameW ++ [("|" : Str)]).map V.str := by rw [List.map_append]; rfl
        rw [eg]
        refine fun q2 hq2 => ⟨Nat.zero_le _, ?_⟩
        have t2 : Same G1 (upd G1 q2 (.lst ((ns.map nameW ++ [("|" : Str)]).map V.str))) := same_new hq2
        have f2 : upd G1 q2 (.lst ((ns.map nameW ++ [("|" : Str)]).map V.str)) q2 = some (.lst ((ns.map nameW ++ [("|" : Str)]).map V.str)) := upd_same
        generalize upd G1 q2 (.lst ((ns.map nameW ++ [("|" : Str)]).map V.str)) = G2 at t2 f2 ⊢
        refine fun q3 hq3 => ?_
        have t3 : Same G2 (upd G2 q3 (.lst [])) := same_new hq3
        have f3 : upd G2 q3 (.lst []) q3 = some (.lst []) := upd_same
        generalize upd G2 q3 (.lst []) = G3 at t3 f3 ⊢
        have t83 : Same H8 G3 := (t1.trans t2).trans t3
        refine ⟨_, SqL.of (t83 _ _ hL8), SqL.of f3, ?_⟩
        have fin : ∀ (cw : List Str) (q : Addr) (G : Hp), Same H8 G → G q = some (.lst ((ns.map nameW ++ [("|" : Str)] ++ cw).map V.str)) → cw = (if srt ds = [] then [("none" : Str)] else (srt ds).map cellW) → Q (.str (Txt.join " " (ns.map nameW ++ [("|" : Str)] ++ cw))) G := fun cw q G tG _ ec => by
          rw [ec, store_join hne]
          exact k _ (s6.trans (s8.trans tG))
        have bnd : ∀ cw : List Str, cw = (if srt ds = [] then [("none" : Str)] else (srt ds).map cellW) → (((ns.map nameW ++ [("|" : Str)] ++ cw).map fun s : Str => s.length).sum ≤ 200 ∧ (ns.map nameW ++ [("|" : Str)] ++ cw).length ≤ 20) := fun cw ec => by
          have h2 := sum_le (fun s : Str => s.length) 6 (ns.map nameW) (fun s hs' => by
            obtain ⟨n, hn, rfl⟩ := List.mem_map.mp hs'
            exact nameW_len (okn.2.2.1 n hn).2.2)
          rw [List.length_map] at h2
          have h3 : (cw.map fun s : Str => s.length).sum ≤ 9 * 11 ∧ cw.length ≤ 11 := by
            rw [ec]
            split
            · exact ⟨by decide +kernel, by decide⟩
            · have h4 := sum_le (fun s : Str => s.length) 9 ((srt ds).map cellW) (fun s hs' => by
                obtain ⟨n, hn, rfl⟩ := List.mem_map.mp hs'
                exact cellW_len (okc.2.1 n hn).2.1 (okc.2.1 n hn).2.2)
              rw [List.length_map, srt_len] at h4
              exact ⟨by omega, by rw [List.length_map, srt_len]; omega⟩
          have h5 : ("|" : Str).length = 1 := by decide
          simp only [List.map_append, List.sum_append, List.length_append, List.length_map, List.map_cons, List.map_nil, List.sum_cons, List.sum_nil, List.length_cons, List.length_nil] at h2 h3 ⊢
          omega
        have es : (Str.ofString " ").length = 1 := by decide
        by_cases ce : srt ds = []
        · rw [ce, if_neg (fun z => z rfl)]
          refine ⟨by omega, fun q4 hq4 => ⟨_, same_new hq4 _ _ (t3 _ _ f2), _, upd_same, by simp only [List.length_map, List.length_append, List.length_cons, List.length_nil]; omega, fun q5 hq5 => ?_⟩⟩
          have ec : [("none" : Str)] = (if srt ds = [] then [("none" : Str)] else (srt ds).map cellW) := by rw [if_pos ce]
          have eh : (ns.map nameW ++ [("|" : Str)]).map V.str ++ [V.str (Str.ofString "none")] = (ns.map nameW ++ [("|" : Str)] ++ [("none" : Str)]).map V.str := (List.map_append (f := V.str) (l₂ := [("none" : Str)])).symm
          rw [eh]
          have bb := bnd _ ec
          refine ⟨_, .inl (SqL.of upd_same), by rw [es]; omega, fin _ q5 _ (t83.trans ((same_new hq4).trans (same_new hq5))) upd_same ec⟩
        · rw [if_pos (by simpa using ce)]
          have ec : (srt ds).map cellW = (if srt ds = [] then [("none" : Str)] else (srt ds).map cellW) := by rw [if_neg ce]
          have bb := bnd _ ec
          refine ⟨_, t3 _ _ f2, _, t83 _ _ hL8, by simp only [List.length_map, List.length_append, List.length_cons, List.length_nil, srt_len]; omega, fun q4 hq4 => ?_⟩
          rw [← List.map_append]
          exact ⟨_, .inl (SqL.of upd_same), by rw [es]; omega, fin _ q4 _ (t83.trans (same_new hq4)) upd_same ec⟩
end
end K79

set_option Elab.async false
set_option linter.all false
set_option maxRecDepth 100000
set_option maxHeartbeats 4000000
namespace K79
open PySem PySem.Spec PyProof.Rows L2 Rd Dt Dq Pk Ln En Sx Sy So Sr
local macro_rules | `(tactic| walk_at "rd") => `(tactic| try simp only [↓Sy.tTupP_, ↓Sy.rTupP_, ↓Sy.rCatP_, ↓Sy.rSlP_, ↓Sy.rDictT_, ↓Sy.tDGet_, ↓Sy.tDGet1_, ↓Sy.tDIn_, ↓Sy.tDNotIn_, ↓Sy.tMeth_, ↓Sy.tMethKw_, ↓Sy.rSortedS_, ↓Sx.rIsT_, ↓En.tFor_enumT, ↓Sy.tFor_enumL, ↓Rv.tMakeKw_, ↓Prp.tProp_, ↓Lo.tBits_, ↓Lo.tJs_n, ↓Lo.tJs_c, ↓Lo.tFmt_, ↓Lo.gFld_, ↓Lo.tMake_, ↓Lo.rOwn_, ↓Rg.tFor_range3, ↓Rg.tLc_range3, ↓Rg.tLstC_, ↓Rg.tLc_rngV, ↓Le.rNeLE_, ↓Le.rEqLE_, ↓Ls.tLc_str, ↓Ls.sDPut_, ↓Rl.rReprL_, ↓Rl.tCallKS_, ↓Ob.tFld_, ↓Ob.sFld_, ↓tVar_, ↓tC_, ↓tM1, ↓tDNewK_, ↓tOp_, ↓tUn_, ↓rI_, ↓rI0_, ↓rU_, ↓eq_ii, ↓ne_ii, ↓eq_ss, ↓ne_ss, ↓eq_bb, ↓ne_bb, ↓tAndV_, ↓tOrV_, ↓tNotV_, ↓tIf_, ↓tTest_, ↓tB_, ↓tAnd_, ↓tOr_, ↓tNot_, ↓tChain_, ↓tNil_, ↓tCons_, ↓tTup_, ↓tLst_, ↓tCB_, ↓tCall_, ↓tSeq_, ↓tNext_, ↓tRet_, ↓tRetN_, ↓tDrop_, ↓tBreak_, ↓tNever_, ↓tIfS_, ↓tAsg_, ↓gName_, ↓gTup_, ↓gCons_, ↓gNil_, ↓gSub_, ↓tPar_, ↓tPar3_, ↓tSl_, ↓tNoPart_, ↓tPart_, ↓tBM_, ↓tFor_range1, ↓tFor_range2, ↓tFor_list, ↓tFor_tup, L2.start, List.headD_cons, List.headD_nil, List.tail_cons, List.map_cons, List.map_nil, List.length_cons, List.length_nil, List.replicate, List.append_nil, List.nil_append, List.cons_append, List.getElem?_cons_zero, List.getElem?_cons_succ, List.set_cons_zero, List.set_cons_succ, Option.some.injEq, V.int.injEq, V.bl.injEq, V.str.injEq, V.ref.injEq, exists_eq_left, exists_eq_left', exists_eq_right, exists_eq, exists_and_left, and_true, true_and, decide_eq_true_eq, Nat.reduceAdd, Nat.reduceSub, Nat.add_zero, Nat.zero_add, List.cons.injEq, Bool.not_eq_true', decide_eq_false_iff_not, eq_self, reduceCtorEq, Bool.false_eq_true, if_true, if_false, ite_true, ite_false, and_self, ↓tLc_range1, ↓tLc_range2, ↓tLc_list, ↓tLc_tup, ↓tYes_, wipe0, wipe1, ↓tCallS_, ↓rIxL_, ↓rIxT_, ↓rSlL_, ↓rCat_, ↓rSetL_, ↓rRep_, ↓rGcd_, ↓tCallK_, ↓gUnl_, ↓tRaise_, decide_true, decide_false, not_true_eq_false, not_false_eq_true, false_and, or_false, false_or, and_false, and_assoc, exists_const, forall_const, forall_eq'])
section
variable {P : Program} {w : World} {K : PySem.W.Frag} {mg : Str → Option Value} {base : Heap}
/-! ### the package's store made, parts made -/
def spMade (K : PySem.W.Frag) (C : Addr) : Sp := fun vs H Q _ => ∃ (m : Nat) (a dn dc : Addr) (ns ds : List (Nat × Nat)), vs = [.ref a] ∧ LSt m H a dn dc ns ds ∧ m ≤ 10 ∧ ∀ r H', Same H H' → StA K C H' r ns (srt ds) → Q (.ref r) H'
theorem sc_md : FnScope ["_law_store_here", "_law_names", "_law_letter", "_law_at"] ["_law_store_here"] (defScope (top 41)) := ⟨rfl, rfl, rfl, by decide +kernel, rfl, by decide +kernel, by decide +kernel⟩
theorem ok_md {f C fi : Addr} {fd fdI : FuncData} (T : Tx mg) (L : StM K mg C fi) (F : FD K "_law_made" (top 41) f fd) (F_init : FnOk P w K mg base CX0 5 fi fdI ["self", "names", "cells"] (spInit K C)) (b_init : Binds K fdI ["self", "names", "cells"] []) :
    FnOk P w K mg base CX0 7 f fd ["_law_store_here"] (spMade K C) := by
  refine F.ok sc_md (fun vs H Q E h => ?_) (fun cdv A outer s H vs Q E hr h => ?_)
  · obtain ⟨_, _, _, _, _, _, rfl, _⟩ := h
    rfl
  · obtain ⟨m, a, dn, dc, ns, ds, rfl, ⟨ha, hdn, hdc, okn, okd⟩, hm, k⟩ := h
    have nd := sc_md.nd
    have zl : (1000000 : Nat) ≤ sizeLine := line_big
    have ln := okn.2.1
    have okc := okd.cl hm
    have lc := okd.1
    refine ⟨_, (pss_cons (ps_set (i := 1) nd rfl (Or.inl rfl) (pe_callTy (En.call_tupP (K := K) rfl) (by rfl) T.b_tuple (by decide +kernel) (pa_cons (pe_lc (own := [("_law_letter", 2)]) rfl nd (pi_list (pe_callB (call_sortedD rfl) (by rfl) T.b_sorted (by decide +kernel) (pa_cons (pe_ix (r := rIxL K) ix_list (pv 0) pe_int (fun _ _ => rfl)) pa_nil))) (blkOk_by (N := ["_law_store_here", "_law_names", "_law_letter", "_law_at"]) (sc := defScope (top 41)) (by decide +kernel)) (fun _ _ _ _ _ => (pg_name (i := 2) nd rfl (Or.inl rfl))) (fun _ _ _ _ _ => pts_nil) (fun _ _ _ _ _ => (pe_tup (pa_cons (pv 2) (pa_cons (pe_dget (hu_of hr) (pe_ix (r := rIxL K) ix_list (pv 0) pe_int (fun _ _ => rfl)) (pv 2) (fun _ _ => rfl)) pa_nil))))) pa_nil)))
        (pss_one (ps_ret (pe_make L.mkr F_init (hr.mono (by omega)) rfl L.g b_init .nil pass0 (pa_cons (pv 1) (pa_cons (pe_callTy (En.call_tupP (K := K) rfl) (by rfl) T.b_tuple (by decide +kernel) (pa_cons (pe_lc (own := [("_law_at", 3)]) rfl nd (pi_list (pe_callB (call_sortedDI rfl) (by rfl) T.b_sorted (by decide +kernel) (pa_cons (pe_ix (r := rIxL K) ix_list (pv 0) pe_int (fun _ _ => rfl)) pa_nil))) (blkOk_by (N := ["_law_store_here", "_law_names", "_law_letter", "_law_at"]) (sc := defScope (top 41)) (by decide +kernel)) (fun _ _ _ _ _ => (pg_name (i := 3) nd rfl (Or.inl rfl))) (fun _ _ _ _ _ => pts_nil) (fun _ _ _ _ _ => (pe_tup (pa_cons (pv 3) (pa_cons (pe_dget (hu_of hr) (pe_ix (r := rIxL K) ix_list (pv 0) pe_int (fun _ _ => rfl)) (pv 3) (fun _ _ => rfl)) pa_nil))))) pa_nil)) pa_nil)))))), ?_⟩
    refine sq fun U hU => ?_
    walk_at "rd"
    refine ⟨_, SqL.of ha, _, rfl, dn, rfl, _, .inl hdn, _, keys_n ns, by rw [List.length_map]; omega, fun ys p py sy hp => ?_⟩
    rw [sorted_names okn py sy]
    have s1 : Same H (upd H p (.lst ((ns.map fun n => L1 n.1).map V.str))) := same_new hp
    have f1 : upd H p (.lst ((ns.map fun n => L1 n.1).map V.str)) p = some (.lst ((ns.map fun n => L1 n.1).map V.str)) := upd_same
    generalize upd H p (.lst ((ns.map fun n => L1 n.1).map V.str)) = H1 at s1 f1 ⊢
    refine ⟨⟨_, SqL.of f1⟩, lc_l (xs := (ns.map fun n => L1 n.1).map V.str) (pairP K H1 (ns.map nk)) fun D hD => ⟨pairP_0 hD, fun j H6 _ hP => SqL.of (hP.1 _ _ f1), ?_, ?_⟩⟩
    · rintro j y H6 hy hP
      obtain ⟨x, hx, rfl⟩ := map_at hy
      obtain ⟨n, hn, rfl⟩ := map_at hx
      unfold Lturn
      walk_at "rd"
      exact ⟨_, SqL.of (hP.1 _ _ (s1 _ _ ha)), _, rfl, dn, rfl, _, get_n (hP.1 _ _ (s1 _ _ hdn)) okn.2.2.2 (List.mem_of_getElem? hn), by omega, fun N hN => pairP_step (kv := nk n) (by rw [List.length_map]; omega) hP hD (by rw [List.getElem?_map, hn]; rfl) hN rfl rfl⟩
    · rintro H6 ⟨hs, zs, hL, hP⟩
      rw [List.length_map, List.length_map, List.take_of_length_le (by rw [List.length_map]; exact Nat.le_refl _)] at hP
      refine ⟨D, rfl, zs, SqL.of hL, fun l o hl ho => hU _ _ ?_⟩
      clear hU
      have s7 : Same H6 (upd H6 l (.frz o (.tup zs))) := same_new hl
      have hnl : PrsAt K (upd H6 l (.frz o (.tup zs))) l (ns.map nk) := ⟨zs, .new ho, hP.up s7⟩
      have s07 := s1.trans (hs.trans s7)
      generalize upd H6 l (.frz o (.tup zs)) = H7 at s7 hnl s07 ⊢
      walk_at "rd"
      refine ⟨_, SqL.of (s07 _ _ ha), _, rfl, dc, rfl, _, .inl (s07 _ _ hdc), _, keys_c ds, by rw [List.length_map]; omega, fun ys p py sy hp => ?_⟩
      rw [srt_keys py sy]
      have s8 : Same H7 (upd H7 p (.lst (((srt ds).map fun d => (d.1 : Int)).map V.int))) := same_new hp
      have f8 : upd H7 p (.lst (((srt ds).map fun d => (d.1 : Int)).map V.int)) p = some (.lst (((srt ds).map fun d => (d.1 : Int)).map V.int)) := upd_same
      generalize upd H7 p (.lst (((srt ds).map fun d => (d.1 : Int)).map V.int)) = H8 at s8 f8 ⊢
      have s08 := s07.trans s8
      refine ⟨⟨_, SqL.of f8⟩, lc_l (xs := ((srt ds).map fun d => (d.1 : Int)).map V.int) (pairP K H8 ((srt ds).map ck)) fun D2 hD2 => ⟨pairP_0 hD2, fun j H9 _ hP => SqL.of (hP.1 _ _ f8), ?_, ?_⟩⟩
      · rintro j y H9 hy hP
        obtain ⟨x, hx, rfl⟩ := map_at hy
        obtain ⟨c, hc, rfl⟩ := map_at hx
        have s09 := s08.trans hP.1
        unfold Lturn
        walk_at "rd"
        exact ⟨_, SqL.of (s09 _ _ ha), _, rfl, dc, rfl, _, get_d (s09 _ _ hdc) okd.2.2 ((srt_perm ds).mem_iff.mp (List.mem_of_getElem? hc)), by omega, fun N hN => pairP_step (kv := ck c) (by rw [List.length_map, srt_len]; omega) hP hD2 (by rw [List.getElem?_map, hc]; rfl) hN rfl rfl⟩
      · rintro H9 ⟨hs9, ws, hL9, hP9⟩
        rw [List.length_map, List.length_map, List.take_of_length_le (by rw [List.length_map]; exact Nat.le_refl _)] at hP9
        refine ⟨D2, rfl, ws, SqL.of hL9, fun l2 o2 hl2 ho2 x dx hx hdx hne => ?_⟩
        have sl : Same H9 (upd H9 l2 (.frz o2 (.tup ws))) := same_new hl2
        have hcl : PrsAt K (upd H9 l2 (.frz o2 (.tup ws))) l2 ((srt ds).map ck) := ⟨ws, .new ho2, hP9.up sl⟩
        have hn2 : PrsAt K (upd H9 l2 (.frz o2 (.tup ws))) l (ns.map nk) := hnl.up (s8.trans (hs9.trans sl))
        generalize upd H9 l2 (.frz o2 (.tup ws)) = H10 at sl hcl hn2 hx hdx ⊢
        have ms := fun (H4 : Hp) (b4 : But x (upd (upd H10 dx (.own x)) x (.ins C dx [])) H4) => make_same hx hdx b4
        exact ⟨x, _, l, l2, ns, _, rfl, upd_same, PrsAt.make hx hdx hn2, PrsAt.make hx hdx hcl, okn, okc, fun H4 b4 st => ⟨rfl, k x H4 (s08.trans (hs9.trans (sl.trans (ms H4 b4)))) st⟩⟩
def spPrt : Sp := fun vs H Q _ => ∃ (m : Nat) (a dn dc sp : Addr) (ns ds : List (Nat × Nat)) (ps : List Nat), vs = [.ref a, .ref sp] ∧ LSt m H a dn dc ns ds ∧ m ≤ 10 ∧ H sp = some (.lst (ps.map vN)) ∧ ps.length ≤ m ∧ ps.Pairwise (· < ·) ∧ (∀ p ∈ ps, p ∈ ds.map (·.1)) ∧
  ∀ (a' dn' dc' : Addr) (es : List (Nat × Nat)) H', Same H H' → LSt m H' a' dn' dc' ns es → es.map (·.1) = ps → (∀ e ∈ es, e ∈ ds) → Q (.ref a') H'
end
end K79

set_option Elab.async false
set_option linter.all false
set_option maxRecDepth 100000
set_option maxHeartbeats 2000000
/-! a dict walked by its keys: locked while the walk goes on -/
namespace Lk
open PySem PySem.Spec PyProof.Rows L2 Rd Dt Pk Ln En Sx Sy
section
variable {K : PySem.W.Frag} {σ : L2.St} {H H' : Hp} {Q : VK} {t : TE} {ts : TS} {td : TE} {g : TG} {tt : TT} {te : TE} {tb : TS} {vs : List Nat} {D : Ends}
theorem tLockE_ : tLockE t σ H Q = ∃ d u, H d = some u ∧ Mut (some u) ∧ ∀ od, t σ (upd H d (.frz od u)) fun v H' => H' d = some (.frz od u) ∧ Q v (upd H' d u) := rfl
theorem tLock_ : tLock ts D σ H = ∃ d u, H d = some u ∧ Mut (some u) ∧ ∀ od, ts ⟨fun σ' H' => H' d = some (.frz od u) ∧ D.nx σ' (upd H' d u), fun v H' => H' d = some (.frz od u) ∧ D.rt v (upd H' d u), fun σ' H' => H' d = some (.frz od u) ∧ D.bk σ' (upd H' d u), fun σ' H' => H' d = some (.frz od u) ∧ D.ct σ' (upd H' d u)⟩ σ (upd H d (.frz od u)) := rfl
theorem tLc_keys : tLc (iKeys td) g tt te vs σ H Q = td σ H fun x H1 => ∃ d o, x = .ref d ∧ ((∃ kvs, H1 d = some (.frz o (.dK kvs)) ∧ tLc (fun _ H R => R (Itk d o kvs) H) g tt te vs σ H1 Q) ∨ ∃ kvs, H1 d = some (.frz o (.dT kvs)) ∧ tLc (fun _ H R => R (Itkt d o kvs) H) g tt te vs σ H1 Q) := by
  unfold tLc iKeys
  rfl
theorem tFor_keys : tFor (iKeys td) g tb D σ H = td σ H fun x H1 => ∃ d o, x = .ref d ∧ ((∃ kvs, H1 d = some (.frz o (.dK kvs)) ∧ tFor (fun _ H R => R (Itk d o kvs) H) g tb D σ H1) ∨ ∃ kvs, H1 d = some (.frz o (.dT kvs)) ∧ tFor (fun _ H R => R (Itkt d o kvs) H) g tb D σ H1) := by
  unfold tFor iKeys
  rfl
theorem lc_k {d : Addr} {o : Obj} {kvs : List (Key × V)} (Pv : Addr → Nat → Hp → Prop) (h : ∀ D, H D = none → Pv D 0 (upd H D (.lst [])) ∧ (∀ i H', i ≤ kvs.length → Pv D i H' → H' d = some (.frz o (.dK kvs))) ∧ (∀ i kv H', kvs[i]? = some kv → Pv D i H' → Lturn g tt te vs σ D (kV kv.1) H' (Pv D (i + 1))) ∧ (∀ H', Pv D kvs.length H' → Q (.ref D) H')) :
    tLc (fun _ H R => R (Itk d o kvs) H) g tt te vs σ H Q := fun D hD => lc_it walk_keys (Pv D) (h D hD).1 (h D hD).2.1 (fun i x H H' hi hp hy => by
      obtain ⟨rfl, k, v, hk, rfl⟩ := hy
      exact (h D hD).2.2.1 i (k, v) _ hk hp) (h D hD).2.2.2
theorem for_k {d : Addr} {o : Obj} {kvs : List (Key × V)} (Pv : Nat → L2.St → Hp → Prop) (h0 : Pv 0 σ H) (hl : ∀ i σ H, i ≤ kvs.length → Pv i σ H → H d = some (.frz o (.dK kvs)))
    (hs : ∀ i kv σ H, kvs[i]? = some kv → Pv i σ H → g (kV kv.1) σ H fun σ2 H2 => tb { D with nx := Pv (i + 1), ct := Pv (i + 1), bk := D.nx } σ2 H2) (hd : ∀ σ H, Pv kvs.length σ H → D.nx σ H) : tFor (fun _ H R => R (Itk d o kvs) H) g tb D σ H :=
  for_it walk_keys Pv h0 hl (fun i x σ H H' hi hp hy => by
    obtain ⟨rfl, k, v, hk, rfl⟩ := hy
    exact hs i (k, v) σ _ hk hp) hd
theorem unlock_same {d : Addr} {u : HO} {od : Obj} (hd : H d = some u) (s : Same (upd H d (.frz od u)) H') : Same H (upd H' d u) := fun b o e => by
  by_cases c : b = d
  · rw [c] at e ⊢
    rw [upd_same, ← hd, e]
  · rw [upd_ne c]
    exact s _ _ (by rw [upd_ne c]; exact e)
theorem lock_ne {d b : Addr} {u o : HO} {od : Obj} (n : b ≠ d) (e : H b = some o) : upd H d (.frz od u) b = some o := by rw [upd_ne n]; exact e
theorem dget_f {d : Addr} {kvs : List (Key × V)} {k : Key} {od : Obj} (e : H d = some (.frz od (.dK kvs))) : DGet H d (kV k) (valV kvs k) := .inl ⟨kvs, k, .inr ⟨od, e⟩, rfl, rfl⟩
end
end Lk

set_option Elab.async false
set_option linter.all false
set_option maxRecDepth 100000
set_option maxHeartbeats 4000000
namespace K79
open PySem PySem.Spec PyProof.Rows L2 Rd Dt Dq Pk Ln En Sx Sy So Sr Lk
local macro_rules | `(tactic| walk_at "rd") => `(tactic| try simp only [↓Lk.tLockE_, ↓Lk.tLock_, ↓Lk.tLc_keys, ↓Lk.tFor_keys, ↓Sy.tTupP_, ↓Sy.rTupP_, ↓Sy.rCatP_, ↓Sy.rSlP_, ↓Sy.rDictT_, ↓Sy.tDGet_, ↓Sy.tDGet1_, ↓Sy.tDIn_, ↓Sy.tDNotIn_, ↓Sy.tMeth_, ↓Sy.tMethKw_, ↓Sy.rSortedS_, ↓Sx.rIsT_, ↓En.tFor_enumT, ↓Sy.tFor_enumL, ↓Rv.tMakeKw_, ↓Prp.tProp_, ↓Lo.tBits_, ↓Lo.tJs_n, ↓Lo.tJs_c, ↓Lo.tFmt_, ↓Lo.gFld_, ↓Lo.tMake_, ↓Lo.rOwn_, ↓Rg.tFor_range3, ↓Rg.tLc_range3, ↓Rg.tLstC_, ↓Rg.tLc_rngV, ↓Le.rNeLE_, ↓Le.rEqLE_, ↓Ls.tLc_str, ↓Ls.sDPut_, ↓Rl.rReprL_, ↓Rl.tCallKS_, ↓Ob.tFld_, ↓Ob.sFld_, ↓tVar_, ↓tC_, ↓tM1, ↓tDNewK_, ↓tOp_, ↓tUn_, ↓rI_, ↓rI0_, ↓rU_, ↓eq_ii, ↓ne_ii, ↓eq_ss, ↓ne_ss, ↓eq_bb, ↓ne_bb, ↓tAndV_, ↓tOrV_, ↓tNotV_, ↓tIf_, ↓tTest_, ↓tB_, ↓tAnd_, ↓tOr_, ↓tNot_, ↓tChain_, ↓tNil_, ↓tCons_, ↓tTup_, ↓tLst_, ↓tCB_, ↓tCall_, ↓tSeq_, ↓tNext_, ↓tRet_, ↓tRetN_, ↓tDrop_, ↓tBreak_, ↓tNever_, ↓tIfS_, ↓tAsg_, ↓gName_, ↓gTup_, ↓gCons_, ↓gNil_, ↓gSub_, ↓tPar_, ↓tPar3_, ↓tSl_, ↓tNoPart_, ↓tPart_, ↓tBM_, ↓tFor_range1, ↓tFor_range2, ↓tFor_list, ↓tFor_tup, L2.start, List.headD_cons, List.headD_nil, List.tail_cons, List.map_cons, List.map_nil, List.length_cons, List.length_nil, List.replicate, List.append_nil, List.nil_append, List.cons_append, List.getElem?_cons_zero, List.getElem?_cons_succ, List.set_cons_zero, List.set_cons_succ, Option.some.injEq, V.int.injEq, V.bl.injEq, V.str.injEq, V.ref.injEq, exists_eq_left, exists_eq_left', exists_eq_right, exists_eq, exists_and_left, and_true, true_and, decide_eq_true_eq, Nat.reduceAdd, Nat.reduceSub, Nat.add_zero, Nat.zero_add, List.cons.injEq, Bool.not_eq_true', decide_eq_false_iff_not, eq_self, reduceCtorEq, Bool.false_eq_true, if_true, if_false, ite_true, ite_false, and_self, ↓tLc_range1, ↓tLc_range2, ↓tLc_list, ↓tLc_tup, ↓tYes_, wipe0, wipe1, ↓tCallS_, ↓rIxL_, ↓rIxT_, ↓rSlL_, ↓rCat_, ↓rSetL_, ↓rRep_, ↓rGcd_, ↓tCallK_, ↓gUnl_, ↓tRaise_, decide_true, decide_false, not_true_eq_false, not_false_eq_true, false_and, or_false, false_or, and_false, and_assoc, exists_const, forall_const, forall_eq'])
section
variable {P : Program} {w : World} {K : PySem.W.Frag} {mg : Str → Option Value} {base : Heap}
/-! ### a told part is right -/
structure MtC (P : Program) (w : World) (K : PySem.W.Frag) (mg : Str → Option Value) (base : Heap) (C : Addr) (m : Str) (lv : Nat) (ps ks : List Str) (sp : Sp) (f : Addr) (fd : FuncData) : Prop where
  m : Meth K C m f
  F : FnOk P w K mg base CX0 lv f fd ps sp
  b : Binds K fd ps []
structure MtS (P : Program) (w : World) (K : PySem.W.Frag) (mg : Str → Option Value) (base : Heap) (C a3 : Addr) (d3 : FuncData) : Prop where
  gone : MtC P w K mg base C "is_gone" 4 ["self", "place"] ["place"] (spGone K C) a3 d3
def spPR (K : PySem.W.Frag) (C : Addr) : Sp := fun vs H Q _ => ∃ (m : Nat) (r a dn dc : Addr) (ns ds : List (Nat × Nat)), vs = [.ref r, .ref a] ∧ StA K C H r ns (srt ds) ∧ LSt m H a dn dc ns ds ∧ m ≤ 10 ∧ ∀ H', Same H H' → Q (.bl true) H'
/-- numbers, grown -/
def nuP (H : Hp) (l : List Nat) (D : Addr) (j : Nat) (H' : Hp) : Prop := Same H H' ∧ H' D = some (.lst ((l.take j).map vN))
theorem nuP_step {H H' : Hp} {l : List Nat} {D : Addr} {j x : Nat} (hl : l.length ≤ 1000) (h : nuP H l D j H') (hD : H D = none) (e : l[j]? = some x) : ∃ acc, H' D = some (.lst acc) ∧ acc.length < sizeLine ∧ nuP H l D (j + 1) (upd H' D (.lst (acc ++ [vN x]))) := by
  obtain ⟨hs, hL⟩ := h
  have zl : (1000000 : Nat) ≤ sizeLine := line_big
  have tl : (l.take j).length ≤ l.length := List.length_take_le' _ _
  refine ⟨_, hL, by rw [List.length_map]; omega, fun c o q => ?_, ?_⟩
  · rw [upd_ne (ne_of_none q hD)]; exact hs _ _ q
  · rw [upd_same, List.take_succ, e, List.map_append]; rfl
theorem gone_eq (ns ds : List (Nat × Nat)) (p : Nat) : goneB ns (srt ds) p = (decide (p ∈ ns.map (·.2) ++ ds.map (·.2)) && (!decide (p = 0) && (look ds p).isNone)) := by
  unfold goneB
  have e1 : (look (srt ds) p).isNone = (look ds p).isNone := by
    rw [Bool.eq_iff_iff, Option.isNone_iff_eq_none, Option.isNone_iff_eq_none, Sr.look_none, Sr.look_none]
    exact ⟨fun h c hc => h c ((srt_perm ds).mem_iff.mpr hc), fun h c hc => h c ((srt_perm ds).mem_iff.mp hc)⟩
  have e2 : (ns.any (fun n => decide (n.2 = p)) || (srt ds).any (fun c => decide (c.2 = p))) = decide (p ∈ ns.map (·.2) ++ ds.map (·.2)) := by
    rw [Bool.eq_iff_iff, Bool.or_eq_true, decide_eq_true_eq, List.any_eq_true, List.any_eq_true, List.mem_append, List.mem_map, List.mem_map]
    simp only [decide_eq_true_eq, (srt_perm ds).mem_iff]
  rw [e1, e2]
  cases decide (p = 0) <;> cases (look ds p).isNone <;> cases decide (p ∈ ns.map (·.2) ++ ds.map (·.2)) <;> rfl
theorem inV_N (c : Nat) (fs : List Nat) : inV (.int (c : Int)) (fs.map vN) = decide (c ∈ fs) := by
  unfold inV
  rw [List.any_map, Bool.eq_iff_iff, List.any_eq_true, decide_eq_true_eq]
  constructor
  · rintro ⟨x, hx, e⟩
    have e2 : (x : Int) = c := by simpa [eqV] using e
    rw [← Int.ofNat.inj e2]
    exact hx
  · intro hx
    exact ⟨c, hx, by simp [eqV]⟩
end
end K79

set_option Elab.async false
set_option linter.all false
set_option maxRecDepth 100000
set_option maxHeartbeats 4000000
namespace K79
open PySem PySem.Spec PyProof.Rows L2 Rd Dt Dq Pk Ln En Sx Sy So Sr Lk
local macro_rules | `(tactic| walk_at "rd") => `(tactic| try simp only [↓Lk.tLockE_, ↓Lk.tLock_, ↓Lk.tLc_keys, ↓Lk.tFor_keys, ↓Sy.tTupP_, ↓Sy.rTupP_, ↓Sy.rCatP_, ↓Sy.rSlP_, ↓Sy.rDictT_, ↓Sy.tDGet_, ↓Sy.tDGet1_, ↓Sy.tDIn_, ↓Sy.tDNotIn_, ↓Sy.tMeth_, ↓Sy.tMethKw_, ↓Sy.rSortedS_, ↓Sx.rIsT_, ↓En.tFor_enumT, ↓Sy.tFor_enumL, ↓Rv.tMakeKw_, ↓Prp.tProp_, ↓Lo.tBits_, ↓Lo.tJs_n, ↓Lo.tJs_c, ↓Lo.tFmt_, ↓Lo.gFld_, ↓Lo.tMake_, ↓Lo.rOwn_, ↓Rg.tFor_range3, ↓Rg.tLc_range3, ↓Rg.tLstC_, ↓Rg.tLc_rngV, ↓Le.rNeLE_, ↓Le.rEqLE_, ↓Ls.tLc_str, ↓Ls.sDPut_, ↓Rl.rReprL_, ↓Rl.tCallKS_, ↓Ob.tFld_, ↓Ob.sFld_, ↓tVar_, ↓tC_, ↓tM1, ↓tDNewK_, ↓tOp_, ↓tUn_, ↓rI_, ↓rI0_, ↓rU_, ↓eq_ii, ↓ne_ii, ↓eq_ss, ↓ne_ss, ↓eq_bb, ↓ne_bb, ↓tAndV_, ↓tOrV_, ↓tNotV_, ↓tIf_, ↓tTest_, ↓tB_, ↓tAnd_, ↓tOr_, ↓tNot_, ↓tChain_, ↓tNil_, ↓tCons_, ↓tTup_, ↓tLst_, ↓tCB_, ↓tCall_, ↓tSeq_, ↓tNext_, ↓tRet_, ↓tRetN_, ↓tDrop_, ↓tBreak_, ↓tNever_, ↓tIfS_, ↓tAsg_, ↓gName_, ↓gTup_, ↓gCons_, ↓gNil_, ↓gSub_, ↓tPar_, ↓tPar3_, ↓tSl_, ↓tNoPart_, ↓tPart_, ↓tBM_, ↓tFor_range1, ↓tFor_range2, ↓tFor_list, ↓tFor_tup, L2.start, List.headD_cons, List.headD_nil, List.tail_cons, List.map_cons, List.map_nil, List.length_cons, List.length_nil, List.replicate, List.append_nil, List.nil_append, List.cons_append, List.getElem?_cons_zero, List.getElem?_cons_succ, List.set_cons_zero, List.set_cons_succ, Option.some.injEq, V.int.injEq, V.bl.injEq, V.str.injEq, V.ref.injEq, exists_eq_left, exists_eq_left', exists_eq_right, exists_eq, exists_and_left, and_true, true_and, decide_eq_true_eq, Nat.reduceAdd, Nat.reduceSub, Nat.add_zero, Nat.zero_add, List.cons.injEq, Bool.not_eq_true', decide_eq_false_iff_not, eq_self, reduceCtorEq, Bool.false_eq_true, if_true, if_false, ite_true, ite_false, and_self, ↓tLc_range1, ↓tLc_range2, ↓tLc_list, ↓tLc_tup, ↓tYes_, wipe0, wipe1, ↓tCallS_, ↓rIxL_, ↓rIxT_, ↓rSlL_, ↓rCat_, ↓rSetL_, ↓rRep_, ↓rGcd_, ↓tCallK_, ↓gUnl_, ↓tRaise_, decide_true, decide_false, not_true_eq_false, not_false_eq_true, false_and, or_false, false_or, and_false, and_assoc, exists_const, forall_const, forall_eq'])
section
variable {P : Program} {w : World} {K : PySem.W.Frag} {mg : Str → Option Value} {base : Heap}
/-! ### parts, plain -/
structure Part (ks ps qs : List Nat) : Prop where
  pa : ps.Pairwise (· < ·)
  qa : qs.Pairwise (· < ·)
  pm : ∀ p ∈ ps, p ∈ ks
  qm : ∀ q ∈ qs, q ∈ ks
  cov : ∀ k ∈ ks, k ∈ ps ∨ k ∈ qs
  dis : ∀ p ∈ ps, p ∉ qs
theorem Part.nil : Part [] [] [] := ⟨.nil, .nil, fun _ h => (nomatch h), fun _ h => (nomatch h), fun _ h => (nomatch h), fun _ h => (nomatch h)⟩
theorem take_at {ks : List Nat} {i k : Nat} (e : ks[i]? = some k) : ks.take (i + 1) = ks.take i ++ [k] := by rw [List.take_succ, e]; rfl
theorem take_lt {ks : List Nat} (h : ks.Pairwise (· < ·)) {i k : Nat} (e : ks[i]? = some k) : ∀ x ∈ ks.take i, x < k := fun x hx => by
  obtain ⟨j, hj⟩ := List.mem_iff_getElem?.mp hx
  rw [List.getElem?_take] at hj
  split at hj
  · rename_i lj
    have := (List.pairwise_iff_getElem.mp h) j i (List.getElem?_eq_some_iff.mp hj).1 (List.getElem?_eq_some_iff.mp e).1 lj
    rw [(List.getElem?_eq_some_iff.mp hj).2, (List.getElem?_eq_some_iff.mp e).2] at this
    exact this
  · cases hj
theorem Part.left {ks ps qs : List Nat} {i k : Nat} (h : Part (ks.take i) ps qs) (asc : ks.Pairwise (· < ·)) (e : ks[i]? = some k) : Part (ks.take (i + 1)) (ps ++ [k]) qs := by
  have lt := take_lt asc e
  rw [take_at e]
  refine ⟨?_, h.qa, fun p hp => ?_, fun q hq => List.mem_append_left _ (h.qm q hq), fun x hx => ?_, fun p hp hq => ?_⟩
  · rw [List.pairwise_append]
    exact ⟨h.pa, List.pairwise_singleton _ _, fun a ha b hb => by rw [List.mem_singleton.mp hb]; exact lt a (h.pm a ha)⟩
  · rcases List.mem_append.mp hp with hp | hp
    · exact List.mem_append_left _ (h.pm p hp)
    · exact List.mem_append_right _ hp
  · rcases List.mem_append.mp hx with hx | hx
    · exact (h.cov x hx).imp (fun z => List.mem_append_left _ z) id
    · exact .inl (List.mem_append_right _ hx)
  · rcases List.mem_append.mp hp with hp | hp
    · exact h.dis p hp hq
    · rw [List.mem_singleton.mp hp] at hq
      exact Nat.lt_irrefl _ (lt k (h.qm k hq))
theorem Part.swap {ks ps qs : List Nat} (h : Part ks ps qs) : Part ks qs ps := ⟨h.qa, h.pa, h.qm, h.pm, fun k hk => (h.cov k hk).symm, fun q hq hp => h.dis q hp hq⟩
theorem Part.right {ks ps qs : List Nat} {i k : Nat} (h : Part (ks.take i) ps qs) (asc : ks.Pairwise (· < ·)) (e : ks[i]? = some k) : Part (ks.take (i + 1)) ps (qs ++ [k]) := (h.swap.left asc e).swap
theorem sel_swap {cs : List (Nat × Nat)} {ps qs : List Nat} (h : Part (cs.map (·.1)) ps qs) (b : Bool) : selC qs (!b) cs = selC ps b cs := by
  unfold selC
  refine List.filter_congr fun c hc => ?_
  have mc : c.1 ∈ cs.map (·.1) := List.mem_map.mpr ⟨c, hc, rfl⟩
  have e : decide (c.1 ∈ qs) = !decide (c.1 ∈ ps) := by
    rcases h.cov _ mc with z | z
    · rw [decide_eq_true z, decide_eq_false (h.dis _ z)]; rfl
    · rw [decide_eq_true z, decide_eq_false (fun y => h.dis _ y z)]; rfl
  rw [e]
  cases decide (c.1 ∈ ps) <;> cases b <;> rfl
theorem asc_keys {cs : List (Nat × Nat)} (h : Asc cs) : (cs.map (·.1)).Pairwise (· < ·) := List.pairwise_map.mpr h
theorem part_srt {ds es : List (Nat × Nat)} {ps : List Nat} (nd : (ds.map (·.1)).Nodup) (ek : es.map (·.1) = ps) (asc : ps.Pairwise (· < ·)) (em : ∀ e ∈ es, e ∈ ds) : srt es = selC ps true (srt ds) := by
  have ae : Asc es := List.pairwise_map.mp (by rw [ek]; exact asc)
  rw [srt_asc_id ae]
  have as : Asc (selC ps true (srt ds)) := (srt_asc nd).sublist List.filter_sublist
  refine asc_uniq ae as ((List.perm_ext_iff_of_nodup (List.nodup_iff_pairwise_ne.mpr (ae.imp fun {a b} q z => by rw [z] at q; omega)) (List.nodup_iff_pairwise_ne.mpr (as.imp fun {a b} q z => by rw [z] at q; omega))).mpr fun x => ?_)
  unfold selC
  rw [List.mem_filter, (srt_perm ds).mem_iff, beq_true, decide_eq_true_eq, ← ek]
  constructor
  · intro hx
    exact ⟨em x hx, List.mem_map.mpr ⟨x, hx, rfl⟩⟩
  · rintro ⟨h1, h2⟩
    obtain ⟨e, he, ee⟩ := List.mem_map.mp h2
    have z := look_mem nd (em e he)
    rw [ee, look_mem nd h1] at z
    have : e = x := Prod.ext ee (Option.some.inj z).symm
    rw [← this]
    exact he
theorem sel_perm (ps : List Nat) (cs : List (Nat × Nat)) : cs.Perm (selC ps true cs ++ selC ps false cs) := by
  unfold selC
  have e : (fun c : Nat × Nat => decide (c.1 ∈ ps) == false) = fun c => !(decide (c.1 ∈ ps) == true) := by
    funext c
    cases decide (c.1 ∈ ps) <;> rfl
  rw [e]
  exact (List.filter_append_perm _ _).symm
theorem sel_same {cs : List (Nat × Nat)} {ps qs : List Nat} (h : Part (cs.map (·.1)) ps qs) : decide (selC ps true cs = selC ps false cs) = decide (ps = qs) := by
  rw [decide_eq_decide]
  constructor
  · intro z
    have no : ∀ c ∈ cs, False := fun c hc => by
      have m1 := (List.mem_filter (p := fun c : Nat × Nat => decide (c.1 ∈ ps) == true) (as := cs) (x := c))
      have m2 := (List.mem_filter (p := fun c : Nat × Nat => decide (c.1 ∈ ps) == false) (as := cs) (x := c))
      have z2 : c ∈ selC ps true cs ↔ c ∈ selC ps false cs := by rw [z]
      unfold selC at z2
      rw [m1, m2] at z2
      by_cases q : c.1 ∈ ps
      · have := z2.mp ⟨hc, by rw [decide_eq_true q]; rfl⟩
        rw [decide_eq_true q] at this
        exact absurd this.2 (by decide)
      · have := z2.mpr ⟨hc, by rw [decide_eq_false q]; rfl⟩
        rw [decide_eq_false q] at this
        exact absurd this.2 (by decide)
    have nk : cs.map (·.1) = [] := by
      cases cs with
      | nil => rfl
      | cons c r => exact (no c (List.mem_cons_self ..)).elim
    have p0 : ps = [] := by
      cases ps with
      | nil => rfl
      | cons p r => have := h.pm p (List.mem_cons_self ..); rw [nk] at this; cases this
    have q0 : qs = [] := by
      cases qs with
      | nil => rfl
      | cons p r => have := h.qm p (List.mem_cons_self ..); rw [nk] at this; cases this
    rw [p0, q0]
  · intro z
    subst z
    have p0 : ps = [] := by
      cases ps with
      | nil => rfl
      | cons p r => exact (h.dis p (List.mem_cons_self ..) (List.mem_cons_self ..)).elim
    subst p0
    have nk : cs = [] := by
      cases cs with
      | nil => rfl
      | cons c r =>
        rcases h.cov c.1 (List.mem_map.mpr ⟨c, List.mem_cons_self .., rfl⟩) with z | z <;> cases z
    rw [nk]
    rfl
/-! ### the class in comparisons -/
structure EqC (P : Program) (w : World) (K : PySem.W.Frag) (mg : Str → Option Value) (base : Heap) (C q : Addr) (fd : FuncData) : Prop where
  F : FnOk P w K mg base CX0 1 q fd ["self", "other"] (spEq K C)
  n : Oc.NeK K C q
  b : Binds K fd ["self", "other"] []
theorem EqC.e {P : Program} {w : World} {K : PySem.W.Frag} {mg : Str → Option Value} {base : Heap} {C q : Addr} {fd : FuncData} (h : EqC P w K mg base C q fd) : Oc.EqK K C q := h.n.toEqK
theorem lst_no {l : List V} (xs : List V) : HO.lst l ≠ .tup xs ∧ ∀ ob, HO.lst l ≠ .frz ob (.tup xs) := ⟨fun z => (by cases z), fun _ z => (by cases z)⟩
theorem StA.at {C : Addr} {H : Hp} {r : Addr} {ns cs : List (Nat × Nat)} (h : StA K C H r ns cs) : ∃ dx fs, H r = some (.ins C dx fs) := by
  obtain ⟨dx, an, ac, dp, da, hr, _⟩ := h
  exact ⟨dx, _, hr⟩
theorem StA.but {C : Addr} {H H' : Hp} {u : Addr} (s : But u H H') (w : WellAt H u) {r : Addr} {ns cs : List (Nat × Nat)} (h : StA K C H r ns cs) : StA K C H' r ns cs := by
  obtain ⟨dx, an, ac, dp, da, h1, h2, h3, h4, h5, h6, h7⟩ := h
  obtain ⟨q1, q2, q3, e, _⟩ := w
  exact ⟨dx, an, ac, dp, da, s _ _ (ne_of h1 e (fun z => by cases z)) h1, h2.but s e lst_no, h3.but s e lst_no, s _ _ (ne_of h4 e (fun z => by cases z)) h4, s _ _ (ne_of h5 e (fun z => by cases z)) h5, h6, h7⟩
theorem eq_use {C : Addr} {H : Hp} {a b : Addr} {ns cs ns' cs' : List (Nat × Nat)} {Q : VK} (h : StA K C H a ns cs) (g : StA K C H b ns' cs') (q : Q (.bl (decide (ns = ns') && decide (cs = cs'))) H) : Oc.rEqO K C (spEq K C) (.ref a) (.ref b) H Q := by
  obtain ⟨dx, fs, hr⟩ := h.at
  obtain ⟨dy, gs, hr2⟩ := g.at
  exact ⟨a, dx, fs, rfl, hr, .ins hr2, a, .ref b, ns, cs, rfl, h, .inr ⟨b, ns', cs', rfl, g, _, rfl, q⟩⟩
theorem ne_use {C : Addr} {H : Hp} {a b : Addr} {ns cs ns' cs' : List (Nat × Nat)} {Q : VK} (h : StA K C H a ns cs) (g : StA K C H b ns' cs') (q : Q (.bl (!(decide (ns = ns') && decide (cs = cs')))) H) : Oc.rNeO K C (spEq K C) (.ref a) (.ref b) H Q := by
  obtain ⟨dx, fs, hr⟩ := h.at
  obtain ⟨dy, gs, hr2⟩ := g.at
  exact ⟨a, dx, fs, rfl, hr, .ins hr2, a, .ref b, ns, cs, rfl, h, .inr ⟨b, ns', cs', rfl, g, _, rfl, q⟩⟩
end
end K79

set_option Elab.async false
set_option linter.all false
set_option maxRecDepth 100000
set_option maxHeartbeats 4000000
/-! rows of numbers in tuples, sorted; ways and rings of arrows, plain -/
namespace Rn
open PySem PySem.Spec PyProof.Rows L2 Rd Dt Pk Ln En Sx Sy
abbrev iN (p : Nat) : V := .int p
inductive Rws (K : PySem.W.Frag) (H : Hp) : List V → List (List Nat) → Prop
  | nil : Rws K H [] []
  | cons {t : Addr} {r : List Nat} {xs : List V} {rs : List (List Nat)} : SqT K H t (r.map iN) → Rws K H xs rs → Rws K H (.ref t :: xs) (r :: rs)
section
variable {X : Cx} {K : PySem.W.Frag} {H H' : Hp}
theorem Rws.keep (s : ∀ a xs, SqT K H a xs → SqT K H' a xs) : ∀ {xs : List V} {rs : List (List Nat)}, Rws K H xs rs → Rws K H' xs rs
  | _, _, .nil => .nil
  | _, _, .cons e h => .cons (s _ _ e) (h.keep s)
theorem Rws.up (s : Same H H') {xs : List V} {rs : List (List Nat)} (h : Rws K H xs rs) : Rws K H' xs rs := h.keep fun _ _ e => sqt_up s e
theorem Rws.len : ∀ {xs : List V} {rs : List (List Nat)}, Rws K H xs rs → xs.length = rs.length
  | _, _, .nil => rfl
  | _, _, .cons _ h => congrArg (· + 1) h.len
theorem Rws.append : ∀ {xs ys : List V} {rs ss : List (List Nat)}, Rws K H xs rs → Rws K H ys ss → Rws K H (xs ++ ys) (rs ++ ss)
  | _, _, _, _, .nil, g => g
  | _, _, _, _, .cons e h, g => .cons e (h.append g)
theorem Rws.mem : ∀ {xs : List V} {rs : List (List Nat)}, Rws K H xs rs → ∀ x ∈ xs, ∃ r ∈ rs, ∃ t, x = .ref t ∧ SqT K H t (r.map iN)
  | _, _, .nil, _, h => nomatch h
  | _, _, .cons (r := r) e h, x, hx => by
    rcases List.mem_cons.mp hx with rfl | hx
    · exact ⟨r, List.mem_cons_self .., _, rfl, e⟩
    · obtain ⟨r2, m, q⟩ := h.mem x hx
      exact ⟨r2, List.mem_cons_of_mem _ m, q⟩
theorem Rws.ofMap (g : V → List Nat) : ∀ ys : List V, (∀ x ∈ ys, ∃ t, x = .ref t ∧ SqT K H t ((g x).map iN)) → Rws K H ys (ys.map g)
  | [], _ => .nil
  | y :: ys, h => by
    obtain ⟨t, rfl, e⟩ := h y (List.mem_cons_self ..)
    exact .cons e (Rws.ofMap g ys fun x hx => h x (List.mem_cons_of_mem _ hx))
theorem Rws.map_eq {kk : V → List Nat} : ∀ {xs : List V} {rs : List (List Nat)}, Rws K H xs rs → (∀ t (r : List Nat), SqT K H t (r.map iN) → kk (.ref t) = r) → xs.map kk = rs
  | _, _, .nil, _ => rfl
  | _, _, .cons e h, u => by rw [List.map_cons, h.map_eq u, u _ _ e]
theorem iN_inj : ∀ {r s : List Nat}, r.map iN = s.map iN → r = s
  | [], [], _ => rfl
  | [], _ :: _, h => by cases h
  | _ :: _, [], h => by cases h
  | a :: r, b :: s, h => by
    simp only [List.map_cons, List.cons.injEq, V.int.injEq] at h
    rw [Int.ofNat.inj h.1, iN_inj h.2]
/-- what a row of whole numbers is as a sort's key -/
theorem items_of : ∀ {r : List Nat} {us : List Value} (i : Nat), Vals (r.map iN) us → PyProof.Rows.tupItems (fun _ => false) i us = some (r.map fun p : Nat => Sum.inl (p : Int))
  | [], _, _, .nil => rfl
  | p :: r, _, i, .cons h t => by
    obtain ⟨tk, rfl⟩ := h
    show (PyProof.Rows.tupItems (fun _ => false) (i + 1) _).map (Sum.inl (p : Int) :: ·) = _
    rw [items_of (i + 1) t]
    rfl
theorem tups_of {h : Heap} {sh : Nat → Bool} : ∀ its : List Value, (∀ u ∈ its, ∃ f, PyProof.Rows.TupOf h sh u f) → ∃ fs, PyProof.Rows.TupsOf h sh its fs
  | [], _ => ⟨[], .nil⟩
  | u :: its, g => by
    obtain ⟨f, hf⟩ := g u (List.mem_cons_self ..)
    obtain ⟨fs, hs⟩ := tups_of its fun x hx => g x (List.mem_cons_of_mem _ hx)
    exact ⟨f :: fs, .cons hf hs⟩
theorem head_le {r s : List Nat} (hr : r ≠ []) (hs : s ≠ []) (h : PyProof.Rows.lexLt PyProof.Rows.itemOrd (s.map fun p : Nat => Sum.inl (p : Int)) (r.map fun p : Nat => Sum.inl (p : Int)) = false) : r.headD 0 ≤ s.headD 0 := by
  cases r with
  | nil => exact absurd rfl hr
  | cons a r =>
    cases s with
    | nil => exact absurd rfl hs
    | cons b s =>
      have q := (PyProof.Rows.lex_false.mp h).1
      have q2 : decide ((b : Int) < a) = false := q
      have := of_decide_eq_false q2
      show a ≤ b
      omega
def rSortedR (K : PySem.W.Frag) : List V → Hp → VK → Prop := fun vs H Q => ∃ (a : Addr) (xs : List V) (rs : List (List Nat)), vs = [V.ref a] ∧ SqL K H a xs ∧ Rws K H xs rs ∧ (∀ r ∈ rs, r ≠ []) ∧
  ∀ (zs : List V) (qs : List (List Nat)) (p : Addr), qs.Perm rs → qs.Pairwise (fun r s => r.headD 0 ≤ s.headD 0) → Rws K H zs qs → H p = none → Q (.ref p) (upd H p (.lst zs))
open Classical in
/-- sorted(l), l a list of tuples of numbers from 0 on, none empty: by the first numbers -/
theorem cr_sortedR (hK : X.K = K) : CallR X (.builtin "sorted") (rSortedR K) := by
  subst hK
  intro pins s σ H vs us Q I r h
  obtain ⟨a, xs, rs, rfl, hq, hR, ne, q⟩ := h
  obtain ⟨its, rv, hl, hz⟩ := I.list hq
  obtain ⟨u, rfl, ru⟩ := vals1 r
  cases ru
  let kk : V → List Nat := fun x => if h : ∃ c : List Nat, ∃ t, x = .ref t ∧ SqT X.K H t (c.map iN) then Classical.choose h else []
  have uni : ∀ t (c : List Nat), SqT X.K H t (c.map iN) → kk (.ref t) = c := fun t c e => by
    have hx : ∃ c : List Nat, ∃ t', V.ref t = .ref t' ∧ SqT X.K H t' (c.map iN) := ⟨c, t, rfl, e⟩
    show (if h : _ then Classical.choose h else []) = c
    rw [dif_pos hx]
    obtain ⟨t', e1, e2⟩ := Classical.choose_spec hx
    cases e1
    exact iN_inj (I.tuple_inj e2 e)
  have ers := hR.map_eq uni
  have all : ∀ x ∈ xs, ∃ t, x = V.ref t ∧ SqT X.K H t ((kk x).map iN) ∧ kk x ≠ [] := fun x hx => by
    obtain ⟨c, m, t, rfl, e⟩ := hR.mem x hx
    rw [uni t c e]
    exact ⟨t, rfl, e, ne c m⟩
  obtain ⟨e1, e2⟩ := refs_back rv fun x m => by
    obtain ⟨t, e, _⟩ := all x m
    exact ⟨t, e⟩
  have key : ∀ v ∈ its, G.tupKeyC s.heap (fun _ => false) v = some ((kk (backV v)).map fun p : Nat => Sum.inl (p : Int)) ∧ ∃ f, PyProof.Rows.TupOf s.heap (fun _ => false) v f := fun v hv => by
    obtain ⟨t, rfl⟩ := e2 v hv
    have hm : V.ref t ∈ xs := by rw [e1]; exact List.mem_map.mpr ⟨_, hv, rfl⟩
    obtain ⟨t', e, ht, hne⟩ := all _ hm
    cases e
    show G.tupKeyC s.heap _ (.ref t) = some ((kk (.ref t)).map _) ∧ _
    generalize kk (.ref t) = c at ht hne ⊢
    obtain ⟨us, r2, ⟨o, ho, hc, n, hd⟩, _⟩ := I.tuple ht
    refine ⟨G.tupKeyC_of ho hc hd (by simpa using items_of 0 r2), ?_⟩
    cases c with
    | nil => exact absurd rfl hne
    | cons p c =>
      cases r2 with
      | cons h1 h2 =>
        obtain ⟨tk, rfl⟩ := h1
        exact ⟨_, t, o, _, n, rfl, ho, hc, hd, rfl, fun _ => ⟨_, _, rfl⟩, fun z => by cases z⟩
  obtain ⟨fs, hfs⟩ := tups_of (sh := fun _ => false) its fun v hv => (key v hv).2
  refine G.sorted_tups hl.isList hfs (fun v hv => ⟨_, (key v hv).1⟩) (by rw [← rv.length]; exact hz) fun st' hp hs _ => ?_
  have pp : (PyProof.Rows.arrOf st').toList.Perm (its.zip its) := by
    have := Array.perm_iff_toList_perm.mp hp
    rwa [pairsOf_toList] at this
  generalize PyProof.Rows.arrOf st' = arr at hs pp ⊢
  have mem : ∀ p ∈ arr.toList, p.1 = p.2 ∧ p.1 ∈ its := fun p hp => mem_zip_self (pp.mem_iff.mp hp)
  have po : (arr.toList.map (·.2)).Perm its := by
    have := pp.map (·.2)
    rwa [List.map_snd_zip (Nat.le_refl _)] at this
  have py : ((arr.toList.map (·.2)).map backV).Perm xs := by rw [e1]; exact po.map backV
  have h3 : ∀ u ∈ arr.toList.map (·.2), ∃ a, u = Value.ref a := fun u hu => e2 u (po.mem_iff.mp hu)
  obtain ⟨n, hn⟩ := PyProof.Rows.sortedAll_at s.heap its (arr.map (·.2))
  have hn' : (sortedAll s.heap its (arr.map (·.2))).get? (s.heap.objs.size + 1) = some (seqObj "list" (arr.toList.map (·.2)).toArray n) := by
    rw [hn]
    congr 2
    apply Array.ext'
    simp
  have pw : arr.toList.Pairwise fun p p' => (kk (backV p.1)).headD 0 ≤ (kk (backV p'.1)).headD 0 := by
    rw [List.pairwise_iff_getElem]
    intro i j hi hj hij
    have hj' : j < (pairsOf its).size := by
      rw [pairsOf_size]
      have := pp.length_eq
      rw [List.length_zip] at this
      omega
    have kl := hs i j (by omega) hj'
    have mi := mem _ (List.getElem_mem hi)
    have mj := mem _ (List.getElem_mem hj)
    have gi : arr[i]? = some (arr.toList[i]) := by rw [← Array.getElem?_toList]; exact List.getElem?_eq_getElem hi
    have gj : arr[j]? = some (arr.toList[j]) := by rw [← Array.getElem?_toList]; exact List.getElem?_eq_getElem hj
    generalize arr.toList[i] = p at mi gi ⊢
    generalize arr.toList[j] = p' at mj gj ⊢
    have ki : PyProof.Rows.KK (G.tupKindC s.heap fun _ => false) arr i = (kk (backV p.1)).map fun p : Nat => Sum.inl (p : Int) := by
      unfold PyProof.Rows.KK
      rw [gi]
      show (G.tupKeyC s.heap (fun _ => false) p.1).getD [] = _
      rw [(key p.1 mi.2).1]
      rfl
    have kj : PyProof.Rows.KK (G.tupKindC s.heap fun _ => false) arr j = (kk (backV p'.1)).map fun p : Nat => Sum.inl (p : Int) := by
      unfold PyProof.Rows.KK
      rw [gj]
      show (G.tupKeyC s.heap (fun _ => false) p'.1).getD [] = _
      rw [(key p'.1 mj.2).1]
      rfl
    rw [ki, kj] at kl
    have nei : ∀ v ∈ its, kk (backV v) ≠ [] := fun v hv => by
      obtain ⟨t, _, _, q⟩ := all (backV v) (by rw [e1]; exact List.mem_map.mpr ⟨v, hv, rfl⟩)
      exact q
    exact head_le (nei _ mi.2) (nei _ mj.2) kl
  refine ⟨.ref _, upd H (s.heap.objs.size + 1) (.lst ((arr.toList.map (·.2)).map backV)), I.laid (t' := s.toks) (fun _ _ => PyProof.Rows.sortedAll_old) (Nat.le_succ _) ⟨?_, _, n, vals_back h3, hn'⟩, rfl, ?_⟩
  · rw [py.length_eq]; exact (by rw [hR.len]; rw [← hR.len, rv.length, ← rv.length]; exact hz)
  refine q _ (((arr.toList.map (·.2)).map backV).map kk) _ ?_ ?_ ?_ (I.hok.fresh (Nat.le_succ _))
  · have := py.map kk
    rwa [ers] at this
  · rw [List.map_map, List.map_map, List.pairwise_map]
    refine (List.Pairwise.and_mem.mp pw).imp fun {p p'} h => ?_
    obtain ⟨m1, m2, h⟩ := h
    rw [(mem p m1).1, (mem p' m2).1] at h
    exact h
  · refine Rws.ofMap kk _ fun x hx => ?_
    obtain ⟨t, e, hq, _⟩ := all x (py.mem_iff.mp hx)
    exact ⟨t, e, hq⟩
end
end Rn

set_option Elab.async false
set_option linter.all false
set_option maxRecDepth 100000
set_option maxHeartbeats 2000000
/-! ways and rings of arrows, plain -/
namespace Rq
open Sx Sr
variable {cs : List (Nat × Nat)}
/-- a chain of cells from p, one behind the other; the last arrow leads to e -/
inductive Ch (cs : List (Nat × Nat)) : Nat → List Nat → Nat → Prop
  | nil (p : Nat) : Ch cs p [] p
  | cons {p q e : Nat} {W : List Nat} : look cs p = some q → Ch cs q W e → Ch cs p (p :: W) e
theorem Ch.snoc : ∀ {W : List Nat} {p e q : Nat}, Ch cs p W e → look cs e = some q → Ch cs p (W ++ [e]) q
  | _, _, _, _, .nil _, h => .cons h (.nil _)
  | _, _, _, _, .cons k c, h => .cons k (c.snoc h)
theorem Ch.app : ∀ {U V : List Nat} {p m e : Nat}, Ch cs p U m → Ch cs m V e → Ch cs p (U ++ V) e
  | _, _, _, _, _, .nil _, h => h
  | _, _, _, _, _, .cons k c, h => .cons k (c.app h)
theorem Ch.cut : ∀ {U V : List Nat} {p e : Nat}, Ch cs p (U ++ V) e → ∃ m, Ch cs p U m ∧ Ch cs m V e
  | [], _, p, _, h => ⟨p, .nil _, h⟩
  | _ :: _, _, _, _, .cons k c => by
    obtain ⟨m, a, b⟩ := c.cut
    exact ⟨m, .cons k a, b⟩
theorem Ch.hd {x p e : Nat} {W : List Nat} (h : Ch cs p (x :: W) e) : x = p := by cases h; rfl
theorem Ch.key : ∀ {W : List Nat} {p e : Nat}, Ch cs p W e → ∀ x ∈ W, (look cs x).isSome = true
  | _, _, _, .cons k c, x, hx => by
    rcases List.mem_cons.mp hx with rfl | hx
    · rw [k]; rfl
    · exact c.key x hx
theorem Ch.pre : ∀ {U W : List Nat} {p e f : Nat}, Ch cs p U e → Ch cs p W f → U.length ≤ W.length → ∃ V, W = U ++ V ∧ Ch cs e V f
  | _, W, _, _, _, .nil _, h, _ => ⟨W, rfl, h⟩
  | _, _, _, _, _, .cons k c, .nil _, l => absurd l (by simp)
  | _, _, _, _, _, .cons k c, .cons k2 c2, l => by
    rw [k] at k2
    cases k2
    obtain ⟨V, e, h⟩ := c.pre c2 (by simpa using l)
    exact ⟨V, by rw [e]; rfl, h⟩
/-- the way from p, as far as its cells are unlike: e is no cell, or one of them -/
structure Way (cs : List (Nat × Nat)) (p : Nat) (W : List Nat) (e : Nat) : Prop where
  ch : Ch cs p W e
  nd : W.Nodup
  fin : (look cs e).isSome = true → e ∈ W
/-- a chain that comes back to its first cell -/
structure Cyc (cs : List (Nat × Nat)) (a : Nat) (W : List Nat) : Prop where
  ch : Ch cs a W a
  nd : W.Nodup
  ne : W ≠ []
theorem Cyc.mem {a : Nat} {W : List Nat} (h : Cyc cs a W) : a ∈ W := by
  obtain ⟨c, _, ne⟩ := h
  cases W with
  | nil => exact absurd rfl ne
  | cons x W => rw [c.hd]; exact List.mem_cons_self ..
theorem Cyc.key {a : Nat} {W : List Nat} (h : Cyc cs a W) : (look cs a).isSome = true := h.ch.key a h.mem
theorem dup {a : Nat} {U V : List Nat} (hu : a ∈ U) (hv : a ∈ V) (nd : (U ++ V).Nodup) : False := (List.nodup_append.mp nd).2.2 a hu a hv rfl
theorem Cyc.uniq {a : Nat} {W W' : List Nat} (h : Cyc cs a W) (h' : Cyc cs a W') : W = W' := by
  have one : ∀ {W W' : List Nat}, Cyc cs a W → Cyc cs a W' → W.length ≤ W'.length → W = W' := fun {W W'} h h' l => by
    obtain ⟨V, e, c⟩ := h.ch.pre h'.ch l
    cases V with
    | nil => rw [e, List.append_nil]
    | cons x V =>
      have := h'.nd
      rw [e] at this
      exact (dup h.mem (by rw [c.hd]; exact List.mem_cons_self ..) this).elim
  rcases Nat.le_total W.length W'.length with l | l
  · exact one h h' l
  · exact (one h' h l).symm
theorem Way.cyc {a e : Nat} {W W' : List Nat} (w : Way cs a W e) (h : Cyc cs a W') : W = W' ∧ e = a := by
  rcases Nat.le_total W.length W'.length with l | l
  · obtain ⟨V, q, c⟩ := w.ch.pre h.ch l
    cases V with
    | nil => cases c; rw [q, List.append_nil]; exact ⟨rfl, rfl⟩
    | cons x V =>
      have nd := h.nd
      rw [q] at nd
      have ex := c.hd
      subst ex
      have := w.fin (c.key x (List.mem_cons_self ..))
      exact (dup this (List.mem_cons_self ..) nd).elim
  · obtain ⟨V, q, c⟩ := h.ch.pre w.ch l
    cases V with
    | nil => cases c; rw [q, List.append_nil]; exact ⟨rfl, rfl⟩
    | cons x V =>
      have nd := w.nd
      rw [q] at nd
      exact (dup h.mem (by rw [c.hd]; exact List.mem_cons_self ..) nd).elim
/-- behind a cell of the way there is a cell of the way -/
theorem Ch.next {p e x y : Nat} {W : List Nat} (h : Ch cs p W e) (hx : x ∈ W) (hy : look cs x = some y) : y ∈ W ∨ y = e := by
  obtain ⟨A, B, rfl⟩ := List.append_of_mem hx
  obtain ⟨m, _, c⟩ := h.cut
  cases c with
  | cons k c2 =>
    rw [k] at hy
    cases hy
    cases c2 with
    | nil => exact .inr rfl
    | cons k2 c3 => exact .inl (List.mem_append_right _ (List.mem_cons_of_mem _ (List.mem_cons_self ..)))
theorem Way.closed {p e x y : Nat} {W : List Nat} (w : Way cs p W e) (hx : x ∈ W) (hy : look cs x = some y) (ky : (look cs y).isSome = true) : y ∈ W := by
  rcases w.ch.next hx hy with h | h
  · exact h
  · rw [h]; exact w.fin (h ▸ ky)
theorem Way.first {p e : Nat} {W : List Nat} (w : Way cs p W e) (k : (look cs p).isSome = true) : p ∈ W := by
  obtain ⟨c, _, f⟩ := w
  cases c with
  | nil => exact f k
  | cons _ _ => exact List.mem_cons_self ..
/-- what is closed under the arrows and has the chain's first cell has the chain -/
theorem Ch.stay {S : List Nat} (cl : ∀ x ∈ S, ∀ y, look cs x = some y → (look cs y).isSome = true → y ∈ S) : ∀ {W : List Nat} {p e : Nat}, Ch cs p W e → ((look cs p).isSome = true → p ∈ S) → ∀ x ∈ W, x ∈ S
  | _, _, _, .cons k c, hp, x, hx => by
    have ps := hp (by rw [k]; rfl)
    rcases List.mem_cons.mp hx with rfl | hx
    · exact ps
    · exact c.stay cl (fun kq => cl _ ps _ k kq) x hx
theorem Ch.stayEnd {S : List Nat} (cl : ∀ x ∈ S, ∀ y, look cs x = some y → (look cs y).isSome = true → y ∈ S) : ∀ {W : List Nat} {p e : Nat}, Ch cs p W e → p ∈ S → (look cs e).isSome = true → e ∈ S
  | _, _, _, .nil _, hp, _ => hp
  | [x], _, _, .cons k c, hp, ke => by cases c; exact cl _ hp _ k ke
  | x :: y :: W, _, _, .cons k c, hp, ke => by
    have kq : (look cs _).isSome = true := c.key y (List.mem_cons_self ..)
    have := c.hd
    exact c.stayEnd cl (cl _ hp _ k (this ▸ kq)) ke
/-- a ring, told from its least cell on -/
structure Ring (cs : List (Nat × Nat)) (m : Nat) (W : List Nat) : Prop where
  cyc : Cyc cs m W
  least : ∀ x ∈ W, m ≤ x
theorem Ring.hd {m : Nat} {W : List Nat} (h : Ring cs m W) : W.headD 0 = m := by
  obtain ⟨⟨c, _, ne⟩, _⟩ := h
  cases W with
  | nil => exact absurd rfl ne
  | cons x W => exact c.hd
/-- a cycle may be told from any of its cells on -/
theorem Cyc.turn {a b : Nat} {A B : List Nat} (h : Cyc cs a (A ++ b :: B)) : Cyc cs b (b :: B ++ A) := by
  obtain ⟨c, nd, _⟩ := h
  obtain ⟨m, c1, c2⟩ := c.cut
  have := c2.hd
  subst this
  refine ⟨c2.app c1, ?_, by simp⟩
  have p : (A ++ b :: B).Perm (b :: B ++ A) := List.perm_append_comm
  exact p.nodup_iff.mp nd
/-- what is known of the rows found when the cells of S have been seen; R: the reached ones -/
structure Seen (cs : List (Nat × Nat)) (R S : List Nat) (rows : List (List Nat)) : Prop where
  cl : ∀ x ∈ S, ∀ y, look cs x = some y → (look cs y).isSome = true → y ∈ S
  sub : ∀ r ∈ R, r ∈ S
  ok : ∀ W ∈ rows, ∃ m, Ring cs m W ∧ m ∉ R ∧ m ∈ S
  all : ∀ m W, Ring cs m W → m ∉ R → m ∈ S → W ∈ rows
  nd : rows.Nodup
theorem Seen.start {R : List Nat} (cl : ∀ x ∈ R, ∀ y, look cs x = some y → (look cs y).isSome = true → y ∈ R) : Seen cs R R [] :=
  ⟨cl, fun _ h => h, fun _ h => (nomatch h), fun _ _ _ n h => absurd h n, List.nodup_nil⟩
/-- a ring through a new cell m of a row that ends at place: place lies on it -/
theorem on_ring {S row : List Nat} {c m place : Nat} {W : List Nat} (cl : ∀ x ∈ S, ∀ y, look cs x = some y → (look cs y).isSome = true → y ∈ S) (ch : Ch cs c row place) (nd : row.Nodup) (dis : ∀ x ∈ row, x ∉ S)
    (ex : (look cs place).isSome = true → place ∈ S ∨ place ∈ row) (hm : m ∈ row) (h : Cyc cs m W) : place ∈ W ∧ place ∈ row := by
  obtain ⟨A, B, rfl⟩ := List.append_of_mem hm
  obtain ⟨m', _, c2⟩ := ch.cut
  have := c2.hd
  subst this
  have pW : place ∈ W := by
    rcases Nat.le_total (m :: B).length W.length with l | l
    · obtain ⟨V, q, c3⟩ := c2.pre h.ch l
      cases V with
      | nil => cases c3; exact h.mem
      | cons x V => rw [q, ← c3.hd]; exact List.mem_append_right _ (List.mem_cons_self ..)
    · obtain ⟨V, q, c3⟩ := h.ch.pre c2 l
      cases V with
      | nil => cases c3; exact h.mem
      | cons x V =>
        have := (List.nodup_append.mp nd).2.1
        rw [q] at this
        exact (dup h.mem (by rw [c3.hd]; exact List.mem_cons_self ..) this).elim
  refine ⟨pW, ?_⟩
  rcases ex (h.ch.key _ pW) with z | z
  · obtain ⟨P, Q, rfl⟩ := List.append_of_mem pW
    obtain ⟨x, _, c4⟩ := h.ch.cut
    have := c4.hd
    subst this
    exact absurd (c4.stayEnd cl z h.key) (dis _ hm)
  · exact z
theorem Seen.grow {R S row : List Nat} {rows : List (List Nat)} {c place : Nat} (h : Seen cs R S rows) (ch : Ch cs c row place) (dis : ∀ x ∈ row, x ∉ S) (ex : (look cs place).isSome = true → place ∈ S ∨ place ∈ row) :
    (∀ x ∈ S ++ row, ∀ y, look cs x = some y → (look cs y).isSome = true → y ∈ S ++ row) ∧ ∀ r ∈ R, r ∈ S ++ row := by
  refine ⟨fun x hx y hy ky => ?_, fun r hr => List.mem_append_left _ (h.sub r hr)⟩
  rcases List.mem_append.mp hx with hx | hx
  · exact List.mem_append_left _ (h.cl x hx y hy ky)
  · rcases ch.next hx hy with z | z
    · exact List.mem_append_right _ z
    · rw [z] at ky ⊢
      exact (ex ky).elim (fun q => List.mem_append_left _ q) fun q => List.mem_append_right _ q
/-- no ring is closed -/
theorem Seen.skip {R S row : List Nat} {rows : List (List Nat)} {c place : Nat} (h : Seen cs R S rows) (ch : Ch cs c row place) (nd : row.Nodup) (dis : ∀ x ∈ row, x ∉ S) (ex : (look cs place).isSome = true → place ∈ S ∨ place ∈ row) (no : place ∉ row) : Seen cs R (S ++ row) rows := by
  obtain ⟨g1, g2⟩ := h.grow ch dis ex
  refine ⟨g1, g2, fun W hW => ?_, fun m W r n hm => ?_, h.nd⟩
  · obtain ⟨m, a, b, c⟩ := h.ok W hW
    exact ⟨m, a, b, List.mem_append_left _ c⟩
  · rcases List.mem_append.mp hm with hm | hm
    · exact h.all m W r n hm
    · exact absurd (on_ring h.cl ch nd dis ex hm r.cyc).2 no
/-- a ring is closed -/
theorem Seen.ring {R S A B T1 T2 : List Nat} {rows : List (List Nat)} {c place m0 : Nat} (h : Seen cs R S rows) (ch : Ch cs c (A ++ place :: B) place) (nd : (A ++ place :: B).Nodup) (dis : ∀ x ∈ A ++ place :: B, x ∉ S)
    (eT : place :: B = T1 ++ m0 :: T2) (least : ∀ x ∈ place :: B, m0 ≤ x) : Ring cs m0 (m0 :: T2 ++ T1) ∧ Seen cs R (S ++ (A ++ place :: B)) (rows ++ [m0 :: T2 ++ T1]) := by
  have ex : (look cs place).isSome = true → place ∈ S ∨ place ∈ A ++ place :: B := fun _ => .inr (List.mem_append_right _ (List.mem_cons_self ..))
  obtain ⟨g1, g2⟩ := h.grow ch dis ex
  have cT : Cyc cs place (place :: B) := by
    obtain ⟨p, _, c2⟩ := ch.cut
    have := c2.hd
    subst this
    exact ⟨c2, (List.nodup_append.mp nd).2.1, by simp⟩
  have rg : Ring cs m0 (m0 :: T2 ++ T1) := by
    refine ⟨Cyc.turn (a := place) (by rw [← eT]; exact cT), fun x hx => least x ?_⟩
    rw [eT]
    rcases List.mem_append.mp hx with hx | hx
    · exact List.mem_append_right _ hx
    · exact List.mem_append_left _ hx
  have m0T : m0 ∈ A ++ place :: B := List.mem_append_right _ (by rw [eT]; exact List.mem_append_right _ (List.mem_cons_self ..))
  refine ⟨rg, g1, g2, fun W hW => ?_, fun m W r n hm => ?_, ?_⟩
  · rcases List.mem_append.mp hW with hW | hW
    · obtain ⟨m, a, b, c⟩ := h.ok W hW
      exact ⟨m, a, b, List.mem_append_left _ c⟩
    · rw [List.mem_singleton.mp hW]
      exact ⟨m0, rg, fun z => dis m0 m0T (h.sub m0 z), List.mem_append_right _ m0T⟩
  · rcases List.mem_append.mp hm with hm | hm
    · exact List.mem_append_left _ (h.all m W r n hm)
    · refine List.mem_append_right _ (List.mem_singleton.mpr ?_)
      obtain ⟨pW, _⟩ := on_ring h.cl ch nd dis ex hm r.cyc
      obtain ⟨P, Q, rfl⟩ := List.append_of_mem pW
      have eq : place :: Q ++ P = place :: B := (Cyc.turn r.cyc).uniq cT
      have mem : ∀ x, x ∈ P ++ place :: Q ↔ x ∈ place :: B := fun x => by
        rw [← eq]
        simp only [List.mem_append, List.mem_cons]
        constructor
        · rintro (z | z | z)
          · exact .inr z
          · exact .inl (.inl z)
          · exact .inl (.inr z)
        · rintro ((z | z) | z)
          · exact .inr (.inl z)
          · exact .inr (.inr z)
          · exact .inl z
      have e1 : m ≤ m0 := r.least m0 ((mem m0).mpr (by rw [eT]; exact List.mem_append_right _ (List.mem_cons_self ..)))
      have e2 : m0 ≤ m := least m ((mem m).mp r.cyc.mem)
      have e3 : m = m0 := Nat.le_antisymm e1 e2
      subst e3
      exact r.cyc.uniq rg.cyc
  · rw [List.nodup_append]
    refine ⟨h.nd, by simp, fun W hW W' hW' e => ?_⟩
    rw [List.mem_singleton.mp hW'] at e
    subst e
    obtain ⟨m, a, _, ms⟩ := h.ok _ hW
    have : m = m0 := by rw [← a.hd]; rfl
    rw [this] at ms
    exact dis m0 m0T ms
/-- both lists of rings are one -/
theorem rings_eq {R : List Nat} {P Q : List (List Nat)} (nP : P.Nodup) (okP : ∀ W ∈ P, ∃ m, Ring cs m W ∧ m ∉ R) (allP : ∀ m W, Ring cs m W → m ∉ R → W ∈ P) (leP : P.Pairwise fun r s => r.headD 0 ≤ s.headD 0)
    (okQ : ∀ W ∈ Q, ∃ m, Ring cs m W ∧ m ∉ R) (allQ : ∀ m W, Ring cs m W → m ∉ R → W ∈ Q) (ltQ : Q.Pairwise fun r s => r.headD 0 < s.headD 0) : P = Q := by
  have nQ : Q.Nodup := ltQ.imp fun {a b} q z => by rw [z] at q; exact Nat.lt_irrefl _ q
  have p : P.Perm Q := (List.perm_ext_iff_of_nodup nP nQ).mpr fun W => ⟨fun h => by
    obtain ⟨m, r, n⟩ := okP W h
    exact allQ m W r n, fun h => by
    obtain ⟨m, r, n⟩ := okQ W h
    exact allP m W r n⟩
  refine List.Perm.eq_of_pairwise (le := fun r s : List Nat => r.headD 0 ≤ s.headD 0) (fun a b ha hb q r => ?_) leP (ltQ.imp fun {a b} q => Nat.le_of_lt q) p
  obtain ⟨m, ra, _⟩ := okP a ha
  obtain ⟨n, rb, _⟩ := okQ b hb
  rw [ra.hd, rb.hd] at q
  rw [ra.hd, rb.hd] at r
  have : m = n := Nat.le_antisymm q r
  subst this
  exact ra.cyc.uniq rb.cyc
/-- so many unlike cells there are at most -/
theorem few {W : List Nat} (nd : W.Nodup) (k : ∀ x ∈ W, (look cs x).isSome = true) : W.length ≤ cs.length := by
  have : W.length ≤ (cs.map (·.1)).length := List.Nodup.length_le_of_subset nd fun x hx => by
    obtain ⟨c, hc, e⟩ := look_some.mp (k x hx)
    exact List.mem_map.mpr ⟨c, hc, e⟩
  rwa [List.length_map] at this
end Rq

set_option Elab.async false
set_option linter.all false
set_option maxRecDepth 100000
set_option maxHeartbeats 4000000
namespace K79
open PySem PySem.Spec PyProof.Rows L2 Rd Dt Dq Pk Ln En Sx Sy So Sr Lk Rq
local macro_rules | `(tactic| walk_at "rd") => `(tactic| try simp only [↓Lk.tLockE_, ↓Lk.tLock_, ↓Lk.tLc_keys, ↓Lk.tFor_keys, ↓Sy.tTupP_, ↓Sy.rTupP_, ↓Sy.rCatP_, ↓Sy.rSlP_, ↓Sy.rDictT_, ↓Sy.tDGet_, ↓Sy.tDGet1_, ↓Sy.tDIn_, ↓Sy.tDNotIn_, ↓Sy.tMeth_, ↓Sy.tMethKw_, ↓Sy.rSortedS_, ↓Sx.rIsT_, ↓En.tFor_enumT, ↓Sy.tFor_enumL, ↓Rv.tMakeKw_, ↓Prp.tProp_, ↓Lo.tBits_, ↓Lo.tJs_n, ↓Lo.tJs_c, ↓Lo.tFmt_, ↓Lo.gFld_, ↓Lo.tMake_, ↓Lo.rOwn_, ↓Rg.tFor_range3, ↓Rg.tLc_range3, ↓Rg.tLstC_, ↓Rg.tLc_rngV, ↓Le.rNeLE_, ↓Le.rEqLE_, ↓Ls.tLc_str, ↓Ls.sDPut_, ↓Rl.rReprL_, ↓Rl.tCallKS_, ↓Ob.tFld_, ↓Ob.sFld_, ↓tVar_, ↓tC_, ↓tM1, ↓tDNewK_, ↓tOp_, ↓tUn_, ↓rI_, ↓rI0_, ↓rU_, ↓eq_ii, ↓ne_ii, ↓eq_ss, ↓ne_ss, ↓eq_bb, ↓ne_bb, ↓tAndV_, ↓tOrV_, ↓tNotV_, ↓tIf_, ↓tTest_, ↓tB_, ↓tAnd_, ↓tOr_, ↓tNot_, ↓tChain_, ↓tNil_, ↓tCons_, ↓tTup_, ↓tLst_, ↓tCB_, ↓tCall_, ↓tSeq_, ↓tNext_, ↓tRet_, ↓tRetN_, ↓tDrop_, ↓tBreak_, ↓tNever_, ↓tIfS_, ↓tAsg_, ↓gName_, ↓gTup_, ↓gCons_, ↓gNil_, ↓gSub_, ↓tPar_, ↓tPar3_, ↓tSl_, ↓tNoPart_, ↓tPart_, ↓tBM_, ↓tFor_range1, ↓tFor_range2, ↓tFor_list, ↓tFor_tup, L2.start, List.headD_cons, List.headD_nil, List.tail_cons, List.map_cons, List.map_nil, List.length_cons, List.length_nil, List.replicate, List.append_nil, List.nil_append, List.cons_append, List.getElem?_cons_zero, List.getElem?_cons_succ, List.set_cons_zero, List.set_cons_succ, Option.some.injEq, V.int.injEq, V.bl.injEq, V.str.injEq, V.ref.injEq, exists_eq_left, exists_eq_left', exists_eq_right, exists_eq, exists_and_left, and_true, true_and, decide_eq_true_eq, Nat.reduceAdd, Nat.reduceSub, Nat.add_zero, Nat.zero_add, List.cons.injEq, Bool.not_eq_true', decide_eq_false_iff_not, eq_self, reduceCtorEq, Bool.false_eq_true, if_true, if_false, ite_true, ite_false, and_self, ↓tLc_range1, ↓tLc_range2, ↓tLc_list, ↓tLc_tup, ↓tYes_, wipe0, wipe1, ↓tCallS_, ↓rIxL_, ↓rIxT_, ↓rSlL_, ↓rCat_, ↓rSetL_, ↓rRep_, ↓rGcd_, ↓tCallK_, ↓gUnl_, ↓tRaise_, decide_true, decide_false, not_true_eq_false, not_false_eq_true, false_and, or_false, false_or, and_false, and_assoc, exists_const, forall_const, forall_eq'])
section
variable {P : Program} {w : World} {K : PySem.W.Frag} {mg : Str → Option Value} {base : Heap}
/-! ### arrows counted, cells unasked -/
def spInto (K : PySem.W.Frag) (C : Addr) : Sp := fun vs H Q _ => ∃ (r : Addr) (ns cs : List (Nat × Nat)) (p : Nat), vs = [.ref r, .int p] ∧ StA K C H r ns cs ∧ p ≤ 999 ∧ ∀ H', Same H H' → Q (.int ((cs.map (·.2)).count p : Nat)) H'
/-- chosen numbers, grown -/
def chN (H : Hp) (t : Nat × Nat → Bool) (g : Nat × Nat → Nat) (l : List (Nat × Nat)) (D : Addr) (j : Nat) (H' : Hp) : Prop := Same H H' ∧ H' D = some (.lst ((((l.take j).filter t).map g).map vN))
theorem chN_0 {H : Hp} {t : Nat × Nat → Bool} {g : Nat × Nat → Nat} {l : List (Nat × Nat)} {D : Addr} (hD : H D = none) : chN H t g l D 0 (upd H D (.lst [])) := ⟨same_new hD, upd_same⟩
theorem chN_step {H H' : Hp} {t : Nat × Nat → Bool} {g : Nat × Nat → Nat} {l : List (Nat × Nat)} {D : Addr} {j : Nat} {x : Nat × Nat} (hl : l.length ≤ 1000) (h : chN H t g l D j H') (hD : H D = none) (e : l[j]? = some x) :
    if t x = true then ∃ acc, H' D = some (.lst acc) ∧ acc.length < sizeLine ∧ chN H t g l D (j + 1) (upd H' D (.lst (acc ++ [vN (g x)]))) else chN H t g l D (j + 1) H' := by
  obtain ⟨hs, hL⟩ := h
  have zl : (1000000 : Nat) ≤ sizeLine := line_big
  have tl : (l.take j).length ≤ l.length := List.length_take_le' _ _
  have fl := List.length_filter_le t (l.take j)
  have eq : (l.take (j + 1)).filter t = (l.take j).filter t ++ (if t x = true then [x] else []) := by
    rw [List.take_succ, e, List.filter_append]
    congr 1
    by_cases d : t x = true
    · rw [if_pos d]; simp only [Option.toList_some, List.filter_cons, d, if_true, List.filter_nil]
    · rw [if_neg d]; simp only [Option.toList_some, List.filter_cons, d, if_false, List.filter_nil, Bool.false_eq_true]
  split
  · rename_i d
    refine ⟨_, hL, by rw [List.length_map, List.length_map]; omega, fun c o q => ?_, ?_⟩
    · rw [upd_ne (ne_of_none q hD)]; exact hs _ _ q
    · rw [upd_same, eq, if_pos d, List.map_append, List.map_append]; rfl
  · rename_i d
    rw [chN, eq, if_neg d, List.append_nil]
    exact ⟨hs, hL⟩
theorem count_fil (l : List (Nat × Nat)) (p : Nat) : (l.filter fun c => decide (c.2 = p)).length = (l.map (·.2)).count p := by
  rw [List.count_eq_countP, List.countP_map, List.countP_eq_length_filter]
  congr 1
theorem sc_into : FnScope ["store", "place", "cell", "arrow"] ["store", "place"] (defScope (top 27)) := ⟨rfl, rfl, rfl, by decide +kernel, rfl, by decide +kernel, by decide +kernel⟩
theorem ok_into {f C : Addr} {fd : FuncData} (T : Tx mg) (W : StB K C) (F : FD K "arrows_into" (top 27) f fd) {f1 f3 : Addr} {fd1 fd3 : FuncData} (C1 : Cal P w K mg base CX0 1 "check_store" ["value"] (spChk K C) f1 fd1)
    (C3 : Cal P w K mg base CX0 3 "is_place" ["value"] spPlace f3 fd3) : FnOk P w K mg base CX0 4 f fd ["store", "place"] (spInto K C) := by
  obtain ⟨gcheck_store, kcheck_store, bcheck_store, Fcheck_store⟩ := C1
  obtain ⟨gis_place, kis_place, bis_place, Fis_place⟩ := C3
  refine F.ok sc_into (fun vs H Q E h => ?_) (fun cdv A outer s H vs Q E hr h => ?_)
  · obtain ⟨_, _, _, _, rfl, _⟩ := h
    rfl
  · obtain ⟨r, ns, cs, p, rfl, hst, hp, k⟩ := h
    have nd := sc_into.nd
    refine ⟨_, (pss_cons (ps_expr (pe_call Fcheck_store (hr.mono (by omega)) rfl gcheck_store kcheck_store bcheck_store .nil pass0 (pa_cons (pv 0) pa_nil)))
        (pss_cons (ps_if (pt_not (pt_val (pe_call Fis_place (hr.mono (by omega)) rfl gis_place kis_place bis_place .nil pass0 (pa_cons (pv 1) pa_nil)))) (pss_one ps_never) pss_nil)
        (pss_one (ps_ret (pe_callB call_len_seq (by rfl) T.b_len PySem.boot_len (pa_cons (pe_lc (own := [("cell", 2), ("arrow", 3)]) rfl nd (pi_tup (Ob.pe_fldK (K := K) rfl (pv 0) rfl)) (blkOk_by (N := ["store", "place", "cell", "arrow"]) (sc := defScope (top 27)) (by decide +kernel)) (fun _ _ _ _ _ => (pg_tupK (K := K) (n := 2) rfl rfl (pgs_cons (pg_name (i := 2) nd rfl (Or.inl rfl) (hf := Or.inr rfl)) (pgs_cons (pg_name (i := 3) nd rfl (Or.inl rfl) (hf := Or.inr rfl)) pgs_nil)) rfl rfl)) (fun _ _ _ _ _ => (pts_one (pt_cmpR op_eq (pv 3) (pv 1) (nomark _)))) (fun _ _ _ _ _ => (pv 2))) pa_nil)))))), ?_⟩
    refine sq fun U hU => ?_
    walk_at "rd"
    refine ⟨r, ns, cs, rfl, hst, hU _ _ ?_⟩
    clear hU
    refine sq fun U hU => ?_
    walk_at "rd"
    refine ⟨p, rfl, true, by rw [decide_eq_true (show (0 : Int) ≤ p by omega), decide_eq_true (show (p : Int) ≤ 999 by omega)]; rfl, ?_⟩
    rw [if_neg (by decide)]
    refine hU _ _ ?_
    clear hU
    obtain ⟨dx, an, ac, dp, da, hr0, hn, hc, hpd, ha, okn, okc⟩ := id hst
    obtain ⟨fn, fc, fp, fa, fl⟩ := StA.fa W hr0
    obtain ⟨xs, pl, prs⟩ := hc
    have lx := prs.len
    rw [List.length_map] at lx
    have o1 := okc.1
    walk_at "rd"
    refine ⟨_, fc, ac, rfl, ⟨_, pl.sqt⟩, lc_t (xs := xs) (chN H (fun c => decide (c.2 = p)) (fun c => c.1) cs) fun D hD => ⟨chN_0 hD, fun j H6 _ hP => sqt_up hP.1 pl.sqt, ?_, ?_⟩⟩
    · rintro j y H8 hy hP
      obtain ⟨kv, a, hkv, rfl, ea⟩ := (prs.up hP.1).atV hy
      obtain ⟨c, hc2, rfl⟩ := map_at hkv
      have ea2 : SqT K H8 a [.int c.1, .int c.2] := ea
      have step := chN_step (by omega) hP hD hc2
      unfold Lturn
      walk_at "rd"
      refine ⟨_, ea2, rfl, _, _, rfl, _, _, rfl, rfl, ?_⟩
      walk_at "rd"
      by_cases d : c.2 = p
      · rw [if_pos (by omega)]
        rwa [if_pos (decide_eq_true d)] at step
      · rw [if_neg (by omega)]
        rwa [if_neg (by rw [decide_eq_false d]; decide)] at step
    · rintro H8 ⟨hs8, hL8⟩
      rw [lx, List.take_length] at hL8
      refine ⟨D, rfl, _, .inl (SqL.of hL8), ?_⟩
      rw [List.length_map, List.length_map, count_fil]
      exact k _ hs8
theorem look_putN (ds : List (Nat × Nat)) (k v x : Nat) : (look (putN ds k v) x).isSome = ((look ds x).isSome || decide (x = k)) := by
  rw [Bool.eq_iff_iff, Bool.or_eq_true, look_some, look_some, decide_eq_true_eq]
  unfold putN
  split
  · rename_i hk
    obtain ⟨d, hd, ed⟩ := List.any_eq_true.mp hk
    have ed := of_decide_eq_true ed
    constructor
    · rintro ⟨c, hc, e⟩
      obtain ⟨c', hc', rfl⟩ := List.mem_map.mp hc
      refine .inl ⟨c', hc', ?_⟩
      rw [← e]
      split <;> rfl
    · rintro (⟨c, hc, e⟩ | e)
      · refine ⟨_, List.mem_map.mpr ⟨c, hc, rfl⟩, ?_⟩
        rw [← e]
        split <;> rfl
      · refine ⟨_, List.mem_map.mpr ⟨d, hd, rfl⟩, ?_⟩
        rw [if_pos ed, e, ← ed]
  · constructor
    · rintro ⟨c, hc, e⟩
      rcases List.mem_append.mp hc with hc | hc
      · exact .inl ⟨c, hc, e⟩
      · rw [List.mem_singleton.mp hc] at e
        exact .inr e.symm
    · rintro (⟨c, hc, e⟩ | e)
      · exact ⟨c, List.mem_append_left _ hc, e⟩
      · exact ⟨(k, v), List.mem_append_right _ (List.mem_singleton.mpr rfl), e.symm⟩
/-! a dict of places, each with True: told by its keys -/
def tK (p : Nat) : Key × V := (.inl p, .bl true)
theorem t_look (ps : List Nat) (k : Nat) : (valV (ps.map tK) (.inl (k : Int) : Key)).isSome = decide (k ∈ ps) := ch_look ps k
theorem t_put (ps : List Nat) (k : Nat) : putK (ps.map tK) (.inl (k : Int)) (.bl true) = (if k ∈ ps then ps else ps ++ [k]).map tK := by
  unfold putK
  have e1 : (ps.map tK).any (fun p => decide (p.1 = (.inl (k : Int) : Key))) = decide (k ∈ ps) := by
    rw [List.any_map, Bool.eq_iff_iff, List.any_eq_true, decide_eq_true_eq]
    constructor
    · rintro ⟨x, hx, e⟩
      have : (Sum.inl (x : Int) : Key) = .inl (k : Int) := of_decide_eq_true e
      injection this with this
      rw [← Int.ofNat.inj this]
      exact hx
    · intro hx
      exact ⟨k, hx, decide_eq_true rfl⟩
  rw [e1]
  by_cases c : k ∈ ps
  · rw [if_pos (decide_eq_true c), if_pos c, List.map_map]
    refine List.map_congr_left fun x _ => ?_
    show (if (Sum.inl (x : Int) : Key) = .inl (k : Int) then _ else _) = tK x
    split <;> rfl
  · rw [if_neg (by rw [decide_eq_false c]; decide), if_neg c, List.map_append]; rfl
def putS (ps : List Nat) (k : Nat) : List Nat := if k ∈ ps then ps else ps ++ [k]
theorem putS_mem {ps : List Nat} {k x : Nat} : x ∈ putS ps k ↔ x ∈ ps ∨ x = k := by
  unfold putS
  split
  · rename_i h
    exact ⟨.inl, fun z => z.elim id fun e => e ▸ h⟩
  · rw [List.mem_append, List.mem_singleton]
theorem putS_len {ps : List Nat} {k : Nat} : (putS ps k).length ≤ ps.length + 1 := by
  unfold putS
  split
  · omega
  · rw [List.length_append]; exact Nat.le_refl _
theorem mergeT : ∀ (qs ps : List Nat), mergeK (ps.map tK) (qs.map tK) = (qs.foldl putS ps).map tK
  | [], _ => rfl
  | q :: qs, ps => by
    show mergeK (putK (ps.map tK) (.inl (q : Int)) (.bl true)) (qs.map tK) = _
    rw [t_put, mergeT qs]
    rfl
theorem fold_mem {x : Nat} : ∀ {qs ps : List Nat}, x ∈ qs.foldl putS ps ↔ x ∈ ps ∨ x ∈ qs
  | [], ps => by simp
  | q :: qs, ps => by
    show x ∈ qs.foldl putS (putS ps q) ↔ _
    rw [fold_mem, putS_mem, List.mem_cons]
    constructor
    · rintro ((z | z) | z)
      · exact .inl z
      · exact .inr (.inl z)
      · exact .inr (.inr z)
    · rintro (z | z | z)
      · exact .inl (.inl z)
      · exact .inl (.inr z)
      · exact .inr z
theorem fold_len : ∀ {qs ps : List Nat}, (qs.foldl putS ps).length ≤ ps.length + qs.length
  | [], ps => by simp
  | q :: qs, ps => by
    have := fold_len (qs := qs) (ps := putS ps q)
    have := putS_len (ps := ps) (k := q)
    show (qs.foldl putS (putS ps q)).length ≤ _
    rw [List.length_cons]
    omega
theorem get_t {H : Hp} {d : Addr} {ps : List Nat} (h : H d = some (.dK (ps.map tK))) (k : Nat) : ∃ o, DGet H d (.int k) o ∧ o.isSome = decide (k ∈ ps) := ⟨_, DGet.k (k := Sum.inl (k : Int)) h, t_look ps k⟩
def spUC (K : PySem.W.Frag) : Sp := fun vs H Q _ => ∃ (l d : Addr) (ls : List Nat) (cs : List (Nat × Nat)), vs = [.ref l, .ref d] ∧ SqL K H l (ls.map vN) ∧ H d = some (.dK (cs.map ck)) ∧ (cs.map (·.1)).Nodup ∧ ls.length ≤ 10 ∧ cs.length ≤ 500 ∧
  ∀ (p : Addr) (H' : Hp), Same H H' → H' p = some (.lst (((cs.filter fun c => !decide (c.1 ∈ ls ++ cs.map (·.2))).map (·.1)).map vN)) → Q (.ref p) H'
theorem sc_uc : FnScope ["leads", "cells", "asked", "cell", "place"] ["leads", "cells"] (defScope (top 28)) := ⟨rfl, rfl, rfl, by decide +kernel, rfl, by decide +kernel, by decide +kernel⟩
theorem ok_uc {f : Addr} {fd : FuncData} (T : Tx mg) (F : FD K "unasked_cells" (top 28) f fd) : FnOk P w K mg base CX0 1 f fd ["leads", "cells"] (spUC K) := by
  refine F.ok sc_uc (fun vs H Q E h => ?_) (fun cdv A outer s H vs Q E hr h => ?_)
  · obtain ⟨_, _, _, _, rfl, _⟩ := h
    rfl
  · obtain ⟨l, d, ls, cs, rfl, hl, hd, nk, ll, lc, k⟩ := h
    have nd := sc_uc.nd
    have zl : (1000000 : Nat) ≤ sizeLine := line_big
    refine ⟨_, (pss_cons (ps_set (i := 2) nd rfl (Or.inr rfl) (pe_callTy (call_dictP rfl) (by rfl) T.b_dict (by decide +kernel) (pa_cons (pe_lc (own := [("place", 4)]) rfl nd (pi_list (pv 0)) (blkOk_by (N := ["leads", "cells", "asked", "cell", "place"]) (sc := defScope (top 28)) (by decide +kernel)) (fun _ _ _ _ _ => (pg_name (i := 4) nd rfl (Or.inl rfl))) (fun _ _ _ _ _ => pts_nil) (fun _ _ _ _ _ => (pe_tup (pa_cons (pv 4) (pa_cons pe_bl pa_nil))))) pa_nil)))
        (pss_cons (ps_lock (ps_for (passes_of rfl) rfl (pi_keys (pv 1)) (pg_name (i := 3) nd rfl (Or.inl rfl)) (pss_one (ps_dput (hu_of hr) (pv 2) (pe_dget (hu_of hr) (pv 1) (pv 3) (fun _ _ => rfl)) pe_bl rfl))))
        (pss_one (ps_ret (pe_lock (pe_lc (own := [("cell", 3)]) rfl nd (pi_keys (pv 1)) (blkOk_by (N := ["leads", "cells", "asked", "cell", "place"]) (sc := defScope (top 28)) (by decide +kernel)) (fun _ _ _ _ _ => (pg_name (i := 3) nd rfl (Or.inl rfl))) (fun _ _ _ _ _ => (pts_one (pt_cmp (pc_dnotin (hu_of hr) (pv 3) (pv 2))))) (fun _ _ _ _ _ => (pv 3)))))))), ?_⟩
    refine sq fun U hU => ?_
    walk_at "rd"
    refine ⟨⟨_, hl⟩, lc_l (xs := ls.map vN) (pairP K H (ls.map tK)) fun D hD => ⟨pairP_0 hD, fun j H6 _ hP => hP.1.seq hl, ?_, ?_⟩⟩
    · rintro j y H6 hy hP
      obtain ⟨p, hp, rfl⟩ := map_at hy
      unfold Lturn
      walk_at "rd"
      exact ⟨by omega, fun N hN => pairP_step (kv := tK p) (by rw [List.length_map]; omega) hP hD (by rw [List.getElem?_map, hp]; rfl) hN rfl rfl⟩
    · rintro H6 ⟨hs, xs, hL, hP⟩
      rw [List.length_map, List.take_of_length_le (by rw [List.length_map]; exact Nat.le_refl _)] at hP
      obtain ⟨as, rfl, hQ⟩ := hP.refs
      refine ⟨D, rfl, as, SqL.of hL, _, hQ, fun A0 hA0 => hU _ _ ?_⟩
      clear hU
      have em : mergeK [] (ls.map tK) = ((ls.foldl putS []).map tK) := mergeT ls []
      rw [em]
      have s7 : Same H (upd H6 A0 (.dK ((ls.foldl putS []).map tK))) := hs.trans (same_new hA0)
      have f7 : upd H6 A0 (.dK ((ls.foldl putS []).map tK)) A0 = some (.dK ((ls.foldl putS []).map tK)) := upd_same
      have nA : A0 ≠ d := fun z => by rw [z, hs _ _ hd] at hA0; cases hA0
      have z0 : H A0 = none := hs.free hA0
      generalize upd H6 A0 (.dK ((ls.foldl putS []).map tK)) = H7 at s7 f7 ⊢
      clear hP hQ hL hs hA0
      have d7 := s7 _ _ hd
      refine sq fun U hU => ?_
      walk_at "rd"
      refine ⟨d, _, d7, trivial, fun od => ⟨od, .inl ⟨_, upd_same, ?_⟩⟩⟩
      have fz : upd H7 d (.frz od (.dK (cs.map ck))) d = some (.frz od (.dK (cs.map ck))) := upd_same
      have fA : upd H7 d (.frz od (.dK (cs.map ck))) A0 = some (.dK ((ls.foldl putS []).map tK)) := by rw [upd_ne nA]; exact f7
      have fl0 := fold_len (qs := ls) (ps := [])
      refine for_k (kvs := cs.map ck) (fun i σ H' => But A0 (upd H7 d (.frz od (.dK (cs.map ck)))) H' ∧ ∃ (ps : List Nat) (y : Option V), H' A0 = some (.dK (ps.map tK)) ∧ (∀ x, x ∈ ps ↔ x ∈ ls ∨ x ∈ (cs.take i).map (·.2)) ∧ ps.length ≤ 10 + i ∧ σ = [some (.ref l), some (.ref d), some (.ref A0), y, none]) ⟨But.refl, _, none, fA, fun x => by rw [fold_mem]; simp, by have : ([] : List Nat).length = 0 := rfl; omega, rfl⟩ (fun i σ H' _ h => h.1 _ _ (Ne.symm nA) fz) ?_ ?_
      · rintro i kv σ H' hkv ⟨hb, ps, y, hA, hm, hp, rfl⟩
        obtain ⟨c, hc, rfl⟩ := map_at hkv
        have il := (List.getElem?_eq_some_iff.mp hc).1
        have gd := dget_f (k := Sum.inl (c.1 : Int)) (hb _ _ (Ne.symm nA) fz)
        rw [val_c, if_pos (by omega), Int.toNat_natCast, look_mem nk (List.mem_of_getElem? hc)] at gd
        walk_at "rd"
        refine ⟨_, gd, _, .k (k := Sum.inl (c.2 : Int)) hA (by rw [List.length_map]; omega), hb.trans But.put, putS ps c.2, ?_, fun x => ?_, by have := putS_len (ps := ps) (k := c.2); omega, _, rfl⟩
        · rw [upd_same, t_put]; rfl
        · rw [putS_mem, hm x, List.take_succ, hc, List.map_append, List.mem_append]
          show _ ↔ x ∈ ls ∨ (_ ∨ x ∈ [c.2])
          rw [List.mem_singleton, or_assoc]
      · rintro σ H' ⟨hb, ps, y, hA, hm, hp, rfl⟩
        rw [List.length_map, List.take_length] at hm
        refine ⟨hb _ _ (Ne.symm nA) fz, hU _ _ ?_⟩
        clear hU
        have s9 : Same H (upd H' d (.dK (cs.map ck))) := fun b o e => by
          by_cases c : b = d
          · rw [c] at e ⊢
            rw [upd_same, ← hd, e]
          · rw [upd_ne c]
            exact hb _ _ (ne_of_none e z0) (by rw [upd_ne c]; exact s7 _ _ e)
        have hA9 : upd H' d (.dK (cs.map ck)) A0 = some (.dK (ps.map tK)) := by rw [upd_ne nA]; exact hA
        have hd9 : upd H' d (.dK (cs.map ck)) d = some (.dK (cs.map ck)) := upd_same
        generalize upd H' d (.dK (cs.map ck)) = H9 at s9 hA9 hd9 ⊢
        clear fz fA f7 s7 d7 hb hA
        walk_at "rd"
        refine ⟨d, _, hd9, trivial, fun od2 => ⟨od2, .inl ⟨_, upd_same, ?_⟩⟩⟩
        have fz : upd H9 d (.frz od2 (.dK (cs.map ck))) d = some (.frz od2 (.dK (cs.map ck))) := upd_same
        have fA : upd H9 d (.frz od2 (.dK (cs.map ck))) A0 = some (.dK (ps.map tK)) := by rw [upd_ne nA]; exact hA9
        refine lc_k (kvs := cs.map ck) (chN (upd H9 d (.frz od2 (.dK (cs.map ck)))) (fun c => !decide (c.1 ∈ ls ++ cs.map (·.2))) (fun c => c.1) cs) fun D2 hD2 => ⟨chN_0 hD2, fun j H6 _ hP => hP.1 _ _ fz, ?_, ?_⟩
        · rintro j kv H6 hkv hP
          obtain ⟨c, hc, rfl⟩ := map_at hkv
          obtain ⟨o, ho, eo⟩ := get_t (hP.1 _ _ fA) c.1
          have step := chN_step (by omega) hP hD2 hc
          unfold Lturn
          walk_at "rd"
          refine ⟨o, ho, ?_⟩
          have em : decide (c.1 ∈ ps) = decide (c.1 ∈ ls ++ cs.map (·.2)) := by rw [decide_eq_decide, hm c.1, List.mem_append]
          rw [eo, em]
          by_cases q : c.1 ∈ ls ++ cs.map (·.2)
          · rw [decide_eq_true q, if_neg (by decide)]
            rwa [if_neg (by rw [decide_eq_true q]; decide)] at step
          · rw [decide_eq_false q, if_pos rfl]
            rwa [if_pos (by rw [decide_eq_false q]; rfl)] at step
        · rintro H6 ⟨hs6, hL6⟩
          rw [List.length_map, List.take_length] at hL6
          have nD : D2 ≠ d := fun z => by rw [z, fz] at hD2; cases hD2
          refine ⟨hs6 _ _ fz, k D2 _ (s9.trans (unlock_same hd9 hs6)) ?_⟩
          rw [upd_ne nD]
          exact hL6
def spNP (K : PySem.W.Frag) (C : Addr) : Sp := fun vs H Q _ => ∃ (r : Addr) (ns cs : List (Nat × Nat)), vs = [.ref r] ∧ StA K C H r ns cs ∧ ∀ (p : Addr) H', Same H H' → H' p = some (.lst ((ns.map (·.2)).map vN)) → Q (.ref p) H'
theorem sc_np : FnScope ["store", "letter", "place"] ["store"] (defScope (top 29)) := ⟨rfl, rfl, rfl, by decide +kernel, rfl, by decide +kernel, by decide +kernel⟩
theorem ok_np {f C : Addr} {fd : FuncData} (T : Tx mg) (W : StB K C) (F : FD K "name_places" (top 29) f fd) : FnOk P w K mg base CX0 1 f fd ["store"] (spNP K C) := by
  refine F.ok sc_np (fun vs H Q E h => ?_) (fun cdv A outer s H vs Q E hr h => ?_)
  · obtain ⟨_, _, _, rfl, _⟩ := h
    rfl
  · obtain ⟨r, ns, cs, rfl, hst, k⟩ := h
    have nd := sc_np.nd
    refine ⟨_, (pss_one (ps_ret (pe_lc (own := [("letter", 1), ("place", 2)]) rfl nd (pi_tup (Ob.pe_fldK (K := K) rfl (pv 0) rfl)) (blkOk_by (N := ["store", "letter", "place"]) (sc := defScope (top 29)) (by decide +kernel)) (fun _ _ _ _ _ => (pg_tupK (K := K) (n := 2) rfl rfl (pgs_cons (pg_name (i := 1) nd rfl (Or.inl rfl) (hf := Or.inr rfl)) (pgs_cons (pg_name (i := 2) nd rfl (Or.inl rfl) (hf := Or.inr rfl)) pgs_nil)) rfl rfl)) (fun _ _ _ _ _ => pts_nil) (fun _ _ _ _ _ => (pv 2))))), ?_⟩
    obtain ⟨dx, an, ac, dp, da, hr0, hn, hc, hpd, ha, okn, okc⟩ := id hst
    obtain ⟨fn, fc, fp, fa, fl⟩ := StA.fa W hr0
    obtain ⟨xs, pl, prs⟩ := hn
    have lx := prs.len
    rw [List.length_map] at lx
    have o1 := okn.2.1
    walk_at "rd"
    refine ⟨_, fn, an, rfl, ⟨_, pl.sqt⟩, lc_t (xs := xs) (nuP H (ns.map (·.2))) fun D hD => ⟨⟨same_new hD, upd_same⟩, fun j H6 _ hP => sqt_up hP.1 pl.sqt, ?_, ?_⟩⟩
    · rintro j y H8 hy hP
      obtain ⟨kv, a, hkv, rfl, ea⟩ := (prs.up hP.1).atV hy
      obtain ⟨c, hc2, rfl⟩ := map_at hkv
      have ea2 : SqT K H8 a [.str (L1 c.1), .int c.2] := ea
      unfold Lturn
      walk_at "rd"
      exact ⟨_, ea2, rfl, _, _, rfl, _, _, rfl, rfl, nuP_step (by rw [List.length_map]; omega) hP hD (by rw [List.getElem?_map, hc2]; rfl)⟩
    · rintro H8 ⟨hs8, hL8⟩
      rw [lx, List.take_of_length_le (by rw [List.length_map]; exact Nat.le_refl _)] at hL8
      exact k D H8 hs8 hL8
def spUn (K : PySem.W.Frag) (C : Addr) : Sp := fun vs H Q _ => ∃ (r : Addr) (ns cs : List (Nat × Nat)), vs = [.ref r] ∧ StA K C H r ns cs ∧
  ∀ (p : Addr) H', Same H H' → SqT K H' p (((cs.filter fun c => !decide (c.1 ∈ ns.map (·.2) ++ cs.map (·.2))).map (·.1)).map vN) → Q (.ref p) H'
theorem sc_un : FnScope ["store"] ["store"] (defScope (top 30)) := ⟨rfl, rfl, rfl, by decide +kernel, rfl, by decide +kernel, by decide +kernel⟩
theorem ok_un {f C : Addr} {fd : FuncData} (T : Tx mg) (W : StB K C) (F : FD K "unasked" (top 30) f fd) {f1 f2 f3 : Addr} {fd1 fd2 fd3 : FuncData} (C1 : Cal P w K mg base CX0 1 "check_store" ["value"] (spChk K C) f1 fd1)
    (C2 : Cal P w K mg base CX0 1 "name_places" ["store"] (spNP K C) f2 fd2) (C3 : Cal P w K mg base CX0 1 "unasked_cells" ["leads", "cells"] (spUC K) f3 fd3) : FnOk P w K mg base CX0 2 f fd ["store"] (spUn K C) := by
  obtain ⟨gcheck_store, kcheck_store, bcheck_store, Fcheck_store⟩ := C1
  obtain ⟨gname_places, kname_places, bname_places, Fname_places⟩ := C2
  obtain ⟨gunasked_cells, kunasked_cells, bunasked_cells, Funasked_cells⟩ := C3
  refine F.ok sc_un (fun vs H Q E h => ?_) (fun cdv A outer s H vs Q E hr h => ?_)
  · obtain ⟨_, _, _, rfl, _⟩ := h
    rfl
  · obtain ⟨r, ns, cs, rfl, hst, k⟩ := h
    have nd := sc_un.nd
    refine ⟨_, (pss_cons (ps_expr (pe_call Fcheck_store (hr.mono (by omega)) rfl gcheck_store kcheck_store bcheck_store .nil pass0 (pa_cons (pv 0) pa_nil)))
        (pss_one (ps_ret (pe_callTy (En.call_tupP (K := K) rfl) (by rfl) T.b_tuple (by decide +kernel) (pa_cons (pe_call Funasked_cells (hr.mono (by omega)) rfl gunasked_cells kunasked_cells bunasked_cells .nil pass0 (pa_cons (pe_call Fname_places (hr.mono (by omega)) rfl gname_places kname_places bname_places .nil pass0 (pa_cons (pv 0) pa_nil)) (pa_cons (Ob.pe_fldK (K := K) rfl (pv 0) rfl) pa_nil))) pa_nil))))), ?_⟩
    refine sq fun U hU => ?_
    walk_at "rd"
    refine ⟨r, ns, cs, rfl, hst, hU _ _ ?_⟩
    clear hU
    walk_at "rd"
    refine ⟨r, ns, cs, rfl, hst, fun p H1 s1 hp => ?_⟩
    obtain ⟨dx, an, ac, dp, da, hr0, hn, hc, hpd, ha, okn, okc⟩ := hst.up s1
    obtain ⟨fn, fc, fp, fa, fl⟩ := StA.fa W hr0
    have o1 := okn.2.1
    refine ⟨_, fa, p, da, ns.map (·.2), cs, rfl, SqL.of hp, ha, asc_nodup okc.2.2, by rw [List.length_map]; omega, okc.1, fun q H2 s2 hq => ⟨q, rfl, _, SqL.of hq, fun l o hl ho => ?_⟩⟩
    exact k l _ (s1.trans (s2.trans (same_new hl))) (PlT.new ho).sqt
/-! ### reached cells -/
def Rch (cs : List (Nat × Nat)) (hs : List Nat) (x : Nat) : Prop := ∃ p ∈ hs, ∃ U e, Ch cs p (U ++ [x]) e
def Cls (cs : List (Nat × Nat)) (S : List Nat) (e : Option Nat) : Prop := ∀ x ∈ S, ∀ y, look cs x = some y → (look cs y).isSome = true → y ∈ S ∨ e = some y
def spRc (K : PySem.W.Frag) (C : Addr) : Sp := fun vs H Q _ => ∃ (r : Addr) (ns cs : List (Nat × Nat)), vs = [.ref r] ∧ StA K C H r ns cs ∧
  ∀ (d : Addr) (S : List Nat) H', Same H H' → H d = none → H' d = some (.dK (S.map tK)) → S.Nodup → (∀ x ∈ S, Rch cs (ns.map (·.2)) x) → (∀ p ∈ ns.map (·.2), (look cs p).isSome = true → p ∈ S) → Cls cs S none → Q (.ref d) H'
theorem sc_rc : FnScope ["store", "found", "letter", "place"] ["store"] (defScope (top 25)) := ⟨rfl, rfl, rfl, by decide +kernel, rfl, by decide +kernel, by decide +kernel⟩
theorem ok_rc {f C : Addr} {fd : FuncData} (T : Tx mg) (W : StB K C) (F : FD K "reached_cells" (top 25) f fd) : FnOk P w K mg base CX0 1 f fd ["store"] (spRc K C) := by
  refine F.ok sc_rc (fun vs H Q E h => ?_) (fun cdv A outer s H vs Q E hr h => ?_)
  · obtain ⟨_, _, _, rfl, _⟩ := h
    rfl
  · obtain ⟨r, ns, cs, rfl, hst, k⟩ := h
    have nd := sc_rc.nd
    have zl : (1000000 : Nat) ≤ sizeLine := line_big
    refine ⟨_, (pss_cons (ps_set (i := 1) nd rfl (Or.inl rfl) pe_dnewK)
        (pss_cons (ps_for (passes_of rfl) rfl (pi_tup (Ob.pe_fldK (K := K) rfl (pv 0) rfl)) (pg_tup rfl (pgs_cons (pg_name (i := 2) nd rfl (Or.inl rfl) (hf := Or.inr rfl)) (pgs_cons (pg_name (i := 3) nd rfl (Or.inl rfl) (hf := Or.inr rfl)) pgs_nil))) (pss_one (ps_while (passes_of rfl) (PW.pt (pw_and (pt_cmp (pc_din (hu_of hr) (pv 3) (Ob.pe_fldK (K := K) rfl (pv 0) rfl))) (pw_and1 (pt_cmp (pc_dnotin (hu_of hr) (pv 3) (pv 1)))))) (pss_cons (ps_dput (hu_of hr) (pv 1) (pv 3) pe_bl rfl)
        (pss_one (ps_set (i := 3) nd rfl (Or.inl rfl) (pe_dget (hu_of hr) (Ob.pe_fldK (K := K) rfl (pv 0) rfl) (pv 3) (fun _ _ => rfl))))))))
        (pss_one (ps_ret (pv 1))))), ?_⟩
    refine sq fun U hU => ?_
    walk_at "rd"
    intro D hD
    refine hU _ _ ?_
    clear hU
    have s1 : Same H (upd H D (.dK [])) := same_new hD
    have f1 : upd H D (.dK []) D = some (.dK []) := upd_same
    generalize upd H D (.dK []) = H1 at s1 f1 ⊢
    obtain ⟨dx, an, ac, dp, da, hr0, hn, hc, hpd, ha, okn, okc⟩ := hst
    obtain ⟨fn, fc, fp, fa, fl⟩ := StA.fa W (s1 _ _ hr0)
    obtain ⟨xs, pl, prs⟩ := hn
    have lx := prs.len
    rw [List.length_map] at lx
    refine sq fun U hU => ?_
    walk_at "rd"
    have nDr : D ≠ r := fun z => by rw [z, hr0] at hD; cases hD
    have nDa : da ≠ D := fun z => by rw [z] at ha; rw [ha] at hD; cases hD
    refine ⟨_, fn, an, rfl, ⟨_, sqt_up s1 pl.sqt⟩, for_t (xs := xs) (fun i σ H' => But D H H' ∧ ∃ (S : List Nat) (y1 y2 : Option V), H' D = some (.dK (S.map tK)) ∧ S.Nodup ∧ (∀ x ∈ S, Rch cs (ns.map (·.2)) x) ∧ (∀ p ∈ (ns.take i).map (·.2), (look cs p).isSome = true → p ∈ S) ∧ Cls cs S none ∧ σ = [some (.ref r), some (.ref D), y1, y2])
      ⟨But.same s1, [], none, none, f1, List.nodup_nil, fun _ z => (nomatch z), fun _ z => (by simp at z), fun _ z => (nomatch z), rfl⟩ (fun i σ H' _ h => ?_) ?_ ?_⟩
    · have nDn : an ≠ D := fun z => by
        obtain ⟨o, e, _⟩ := pl
        rw [z, hD] at e
        cases e
      exact sqt_but (But.trans But.refl h.1) nDn pl.sqt
    · rintro i x σ H' hi ⟨hb, S, y1, y2, hS, nS, rS, cS, clS, rfl⟩
      have hsame : Same H H' := fun b o e => hb b o (ne_of_none e hD) e
      obtain ⟨kv, b, hkv, rfl, eb⟩ := (prs.up hsame).atV hi
      obtain ⟨n, hn, rfl⟩ := map_at hkv
      have eb : SqT K H' b [.str (L1 n.1), .int n.2] := eb
      walk_at "rd"
      refine ⟨_, eb, rfl, _, _, rfl, _, _, rfl, rfl, ?_⟩
      have mn : n.2 ∈ ns.map (·.2) := List.mem_map.mpr ⟨n, List.mem_of_getElem? hn, rfl⟩
      refine Bw.while_b2 (fun σ H' => But D H H' ∧ ∃ (S U : List Nat) (q : Nat), H' D = some (.dK (S.map tK)) ∧ S.Nodup ∧ (∀ x ∈ S, Rch cs (ns.map (·.2)) x) ∧ (∀ p ∈ (ns.take i).map (·.2), (look cs p).isSome = true → p ∈ S) ∧ Cls cs S (some q) ∧ Ch cs n.2 U q ∧ ((look cs n.2).isSome = true → n.2 ∈ S ∨ q = n.2) ∧ σ = [some (.ref r), some (.ref D), some (.str (L1 n.1)), some (.int q)])
        (fun _ H' => cs.length - (match H' D with | some (.dK l) => l.length | _ => 0)) ⟨hb, S, [], n.2, hS, nS, rS, cS, fun x hx y hy ky => .inl ((clS x hx y hy ky).elim id fun z => nomatch z), .nil _, fun _ => .inr rfl, rfl⟩ ?_
      rintro σ H2 ⟨hb2, S2, U2, q, hS2, nS2, rS2, cS2, clS2, ch, fst, rfl⟩ QB qt qf
      have hs2 : Same H H2 := fun b o e => hb2 b o (ne_of_none e hD) e
      obtain ⟨_, _, _, fa2, _⟩ := StA.fa W (hs2 _ _ hr0)
      obtain ⟨o, ho, eo⟩ := get_t hS2 q
      walk_at "rd"
      refine ⟨_, fa2, da, rfl, _, get_c (hs2 _ _ ha) q, ?_⟩
      have endS : (look cs q).isSome = false ∨ q ∈ S2 → QB false H2 := fun ex => by
        refine qf _ ?_
        have clN : Cls cs S2 none := fun x hx y hy ky => by
          rcases clS2 x hx y hy ky with z | z
          · exact .inl z
          · cases z
            rcases ex with z | z
            · rw [z] at ky; cases ky
            · exact .inl z
        refine ⟨hb2, S2, hS2, nS2, rS2, fun p hp kp => ?_, clN, _, _, rfl⟩
        rw [List.take_succ, hn, List.map_append, List.mem_append] at hp
        rcases hp with hp | hp
        · exact cS2 p hp kp
        · have hp : p ∈ [n.2] := hp
          rw [List.mem_singleton.mp hp] at kp ⊢
          rcases fst kp with z | z
          · exact z
          · rcases ex with e | e
            · rw [z, kp] at e; cases e
            · rw [← z]; exact e
      cases el : look cs q with
      | none =>
        rw [Option.map_none, if_neg (by decide)]
        exact endS (.inl (by rw [el]; rfl))
      | some v =>
        rw [Option.map_some, if_pos (by rfl)]
        refine ⟨o, ho, ?_⟩
        rw [eo]
        by_cases hq : q ∈ S2
        · rw [decide_eq_true hq]
          exact endS (.inr hq)
        · rw [decide_eq_false hq]
          refine qt _ ?_
          have kq : (look cs q).isSome = true := by rw [el]; rfl
          have rq : Rch cs (ns.map (·.2)) q := ⟨n.2, mn, U2, v, ch.snoc el⟩
          have nS3 : (S2 ++ [q]).Nodup := by
            rw [List.nodup_append]
            refine ⟨nS2, by simp, fun a ha b hb z => ?_⟩
            rw [List.mem_singleton.mp hb] at z
            exact hq (z ▸ ha)
          have keys : ∀ x ∈ S2 ++ [q], (look cs x).isSome = true := fun x hx => by
            rcases List.mem_append.mp hx with hx | hx
            · obtain ⟨p, _, U, e, c⟩ := rS2 x hx
              exact c.key x (List.mem_append_right _ (List.mem_singleton.mpr rfl))
            · rw [List.mem_singleton.mp hx]; exact kq
          have fw := few nS3 keys
          rw [List.length_append, List.length_singleton] at fw
          have o5 := okc.1
          refine sq fun U3 hU3 => ?_
          walk_at "rd"
          refine ⟨_, .k (k := Sum.inl (q : Int)) hS2 (by rw [List.length_map]; omega), hU3 _ _ ?_⟩
          clear hU3
          have eput : putK (S2.map tK) (.inl (q : Int)) (.bl true) = (S2 ++ [q]).map tK := by rw [t_put, if_neg hq]
          rw [eput]
          have hb3 : But D H (upd H2 D (.dK ((S2 ++ [q]).map tK))) := hb2.trans But.put
          have hs3 : Same H (upd H2 D (.dK ((S2 ++ [q]).map tK))) := fun b o e => hb3 b o (ne_of_none e hD) e
          obtain ⟨_, _, _, fa3, _⟩ := StA.fa W (hs3 _ _ hr0)
          walk_at "rd"
          have gv := get_c (hs3 _ _ ha) q
          rw [el] at gv
          refine ⟨_, fa3, da, rfl, _, gv, hb3, ⟨S2 ++ [q], upd_same, nS3, fun x hx => ?_, fun p hp kp => List.mem_append_left _ (cS2 p hp kp), U2 ++ [q], v, fun x hx y hy ky => ?_, ch.snoc el, fun kn => ?_, rfl⟩, ?_⟩
          · rcases List.mem_append.mp hx with hx | hx
            · exact rS2 x hx
            · rw [List.mem_singleton.mp hx]; exact rq
          · rcases List.mem_append.mp hx with hx | hx
            · rcases clS2 x hx y hy ky with z | z
              · exact .inl (List.mem_append_left _ z)
              · cases z
                exact .inl (List.mem_append_right _ (List.mem_singleton.mpr rfl))
            · rw [List.mem_singleton.mp hx, el] at hy
              cases hy
              exact .inr rfl
          · rcases fst kn with z | z
            · exact .inl (List.mem_append_left _ z)
            · exact .inl (by rw [← z]; exact List.mem_append_right _ (List.mem_singleton.mpr rfl))
          · rw [upd_same, hS2]
            show cs.length - ((S2 ++ [q]).map tK).length < cs.length - (S2.map tK).length
            rw [List.length_map, List.length_map, List.length_append, List.length_singleton]
            omega
    · rintro σ H' ⟨hb, S, y1, y2, hS, nS, rS, cS, clS, rfl⟩
      refine hU _ _ ?_
      clear hU
      walk_at "rd"
      rw [lx, List.take_length] at cS
      exact k D S H' (fun b o e => hb b o (ne_of_none e hD) e) hD hS nS rS cS clS
end
end K79

set_option Elab.async false
set_option linter.all false
set_option maxRecDepth 100000
set_option maxHeartbeats 4000000
namespace K79
open PySem PySem.Spec PyProof.Rows L2 Rd Dt Dq Pk Ln En Sx Sy So Sr Lk Rq
local macro_rules | `(tactic| walk_at "rd") => `(tactic| try simp only [↓Lk.tLockE_, ↓Lk.tLock_, ↓Lk.tLc_keys, ↓Lk.tFor_keys, ↓Sy.tTupP_, ↓Sy.rTupP_, ↓Sy.rCatP_, ↓Sy.rSlP_, ↓Sy.rDictT_, ↓Sy.tDGet_, ↓Sy.tDGet1_, ↓Sy.tDIn_, ↓Sy.tDNotIn_, ↓Sy.tMeth_, ↓Sy.tMethKw_, ↓Sy.rSortedS_, ↓Sx.rIsT_, ↓En.tFor_enumT, ↓Sy.tFor_enumL, ↓Rv.tMakeKw_, ↓Prp.tProp_, ↓Lo.tBits_, ↓Lo.tJs_n, ↓Lo.tJs_c, ↓Lo.tFmt_, ↓Lo.gFld_, ↓Lo.tMake_, ↓Lo.rOwn_, ↓Rg.tFor_range3, ↓Rg.tLc_range3, ↓Rg.tLstC_, ↓Rg.tLc_rngV, ↓Le.rNeLE_, ↓Le.rEqLE_, ↓Ls.tLc_str, ↓Ls.sDPut_, ↓Rl.rReprL_, ↓Rl.tCallKS_, ↓Ob.tFld_, ↓Ob.sFld_, ↓tVar_, ↓tC_, ↓tM1, ↓tDNewK_, ↓tOp_, ↓tUn_, ↓rI_, ↓rI0_, ↓rU_, ↓eq_ii, ↓ne_ii, ↓eq_ss, ↓ne_ss, ↓eq_bb, ↓ne_bb, ↓tAndV_, ↓tOrV_, ↓tNotV_, ↓tIf_, ↓tTest_, ↓tB_, ↓tAnd_, ↓tOr_, ↓tNot_, ↓tChain_, ↓tNil_, ↓tCons_, ↓tTup_, ↓tLst_, ↓tCB_, ↓tCall_, ↓tSeq_, ↓tNext_, ↓tRet_, ↓tRetN_, ↓tDrop_, ↓tBreak_, ↓tNever_, ↓tIfS_, ↓tAsg_, ↓gName_, ↓gTup_, ↓gCons_, ↓gNil_, ↓gSub_, ↓tPar_, ↓tPar3_, ↓tSl_, ↓tNoPart_, ↓tPart_, ↓tBM_, ↓tFor_range1, ↓tFor_range2, ↓tFor_list, ↓tFor_tup, L2.start, List.headD_cons, List.headD_nil, List.tail_cons, List.map_cons, List.map_nil, List.length_cons, List.length_nil, List.replicate, List.append_nil, List.nil_append, List.cons_append, List.getElem?_cons_zero, List.getElem?_cons_succ, List.set_cons_zero, List.set_cons_succ, Option.some.injEq, V.int.injEq, V.bl.injEq, V.str.injEq, V.ref.injEq, exists_eq_left, exists_eq_left', exists_eq_right, exists_eq, exists_and_left, and_true, true_and, decide_eq_true_eq, Nat.reduceAdd, Nat.reduceSub, Nat.add_zero, Nat.zero_add, List.cons.injEq, Bool.not_eq_true', decide_eq_false_iff_not, eq_self, reduceCtorEq, Bool.false_eq_true, if_true, if_false, ite_true, ite_false, and_self, ↓tLc_range1, ↓tLc_range2, ↓tLc_list, ↓tLc_tup, ↓tYes_, wipe0, wipe1, ↓tCallS_, ↓rIxL_, ↓rIxT_, ↓rSlL_, ↓rCat_, ↓rSetL_, ↓rRep_, ↓rGcd_, ↓tCallK_, ↓gUnl_, ↓tRaise_, decide_true, decide_false, not_true_eq_false, not_false_eq_true, false_and, or_false, false_or, and_false, and_assoc, exists_const, forall_const, forall_eq'])
section
variable {P : Program} {w : World} {K : PySem.W.Frag} {mg : Str → Option Value} {base : Heap}
/-! ### rings -/
theorem eqV_N {a b : Nat} : eqV (vN a) (vN b) = decide (a = b) := by
  show decide ((a : Int) = b) = _
  rw [decide_eq_decide]
  omega
theorem idx_app {A B : List Nat} {p : Nat} (nd : (A ++ p :: B).Nodup) : ((A ++ p :: B).map vN)[A.length]? = some (vN p) ∧ ∀ (m : Nat) (z : V), m < A.length → ((A ++ p :: B).map vN)[m]? = some z → eqV z (vN p) = false := by
  refine ⟨by rw [List.getElem?_map, List.getElem?_append_right (Nat.le_refl _), Nat.sub_self]; rfl, fun m z hm e => ?_⟩
  obtain ⟨x, hx, rfl⟩ := map_at e
  rw [eqV_N, decide_eq_false]
  intro q
  rw [List.getElem?_append_left hm] at hx
  exact (List.nodup_append.mp nd).2.2 x (List.mem_of_getElem? hx) p (List.mem_cons_self ..) q
def spRF (K : PySem.W.Frag) : Sp := fun vs H Q _ => ∃ (a : Addr) (A B : List Nat) (p : Nat), vs = [.ref a, .int p] ∧ SqL K H a ((A ++ p :: B).map vN) ∧ (A ++ p :: B).Nodup ∧ (A ++ p :: B).length ≤ 500 ∧
  ∀ (t : Addr) (T1 T2 : List Nat) (m0 : Nat) H', Same H H' → p :: B = T1 ++ m0 :: T2 → (∀ x ∈ p :: B, m0 ≤ x) → SqT K H' t ((m0 :: T2 ++ T1).map vN) → Q (.ref t) H'
theorem sc_rf : FnScope ["row", "place", "cells", "first"] ["row", "place"] (defScope (top 31)) := ⟨rfl, rfl, rfl, by decide +kernel, rfl, by decide +kernel, by decide +kernel⟩
theorem ok_rf {f : Addr} {fd : FuncData} (T : Tx mg) (F : FD K "ring_from" (top 31) f fd) : FnOk P w K mg base CX0 1 f fd ["row", "place"] (spRF K) := by
  refine F.ok sc_rf (fun vs H Q E h => ?_) (fun cdv A outer s H vs Q E hr h => ?_)
  · obtain ⟨_, _, _, _, rfl, _⟩ := h
    rfl
  · obtain ⟨a, A, B, p, rfl, ha, nA, lA, k⟩ := h
    have nd := sc_rf.nd
    have zl : (1000000 : Nat) ≤ sizeLine := line_big
    have ll : (A ++ p :: B).length = A.length + (B.length + 1) := by rw [List.length_append, List.length_cons]
    obtain ⟨i1, i2⟩ := idx_app nA
    refine ⟨_, (pss_cons (ps_set (i := 2) nd rfl (Or.inl rfl) (pe_slice (r := rSlL K) sl_list (pv 0) (po_some (pe_bm PySem.F.plainAttrs_list PySem.F.slot_list_index PySem.F.type_list_index mt_index (pv 0) (pa_cons (pv 1) pa_nil))) po_none))
        (pss_cons (ps_set (i := 3) nd rfl (Or.inl rfl) (pe_bm PySem.F.plainAttrs_list PySem.F.slot_list_index PySem.F.type_list_index mt_index (pv 2) (pa_cons (pe_callB (cr_min rfl) (by rfl) T.b_min (by decide +kernel) (pa_cons (pv 2) pa_nil)) pa_nil)))
        (pss_one (ps_ret (pe_callTy (En.call_tupP (K := K) rfl) (by rfl) T.b_tuple (by decide +kernel) (pa_cons (pe_op op_cat (pe_slice (r := rSlL K) sl_list (pv 2) (po_some (pv 3)) po_none) (pe_slice (r := rSlL K) sl_list (pv 2) po_none (po_some (pv 3)))) pa_nil)))))), ?_⟩
    refine sq fun U hU => ?_
    walk_at "rd"
    refine ⟨.inl ⟨rfl, _, ha⟩, ?_⟩
    refine ⟨a, _, vN p, A.length, _, rfl, rfl, ha, rfl, flat_N _, i1, (by rw [eqV_N, decide_eq_true rfl]), i2, _, rfl, _, ha, fun D hD => hU _ _ ?_⟩
    clear hU
    rw [cut_from (by rw [List.length_map]; omega), ← List.map_drop, Int.toNat_natCast, List.drop_left]
    have s1 : Same H (upd H D (.lst ((p :: B).map vN))) := same_new hD
    have f1 : upd H D (.lst ((p :: B).map vN)) D = some (.lst ((p :: B).map vN)) := upd_same
    generalize upd H D (.lst ((p :: B).map vN)) = H1 at s1 f1 ⊢
    have nB := (List.nodup_append.mp nA).2.1
    refine sq fun U hU => ?_
    walk_at "rd"
    have eI : (p :: B).map vN = ((p :: B).map fun n : Nat => (n : Int)).map V.int := by rw [List.map_map]; rfl
    refine ⟨.inl ⟨rfl, _, SqL.of f1⟩, ?_⟩
    refine ⟨D, (p :: B).map fun n : Nat => (n : Int), rfl, SqL.of (by rw [← eI]; exact f1), by simp, fun mi hmi hle => ?_⟩
    obtain ⟨m0, hm0, rfl⟩ := List.mem_map.mp hmi
    have least : ∀ x ∈ p :: B, m0 ≤ x := fun x hx => by
      have := hle _ (List.mem_map.mpr ⟨x, hx, rfl⟩)
      omega
    obtain ⟨T1, T2, eT⟩ := List.append_of_mem hm0
    rw [eT] at nB f1
    obtain ⟨j1, j2⟩ := idx_app nB
    have lT : (T1 ++ m0 :: T2).length = T1.length + (T2.length + 1) := by rw [List.length_append, List.length_cons]
    have lT2 : (p :: B).length = (T1 ++ m0 :: T2).length := by rw [eT]
    rw [List.length_cons] at lT2
    refine ⟨D, _, vN m0, T1.length, _, rfl, rfl, SqL.of f1, rfl, flat_N _, j1, (by rw [eqV_N, decide_eq_true rfl]), j2, hU _ _ ?_⟩
    clear hU
    walk_at "rd"
    refine ⟨_, SqL.of f1, fun D2 hD2 => ⟨_, SqL.of (same_new hD2 _ _ f1), fun D3 hD3 => ?_⟩⟩
    rw [cut_from (by rw [List.length_map]; omega), cut_to (by rw [List.length_map]; omega), ← List.map_drop, ← List.map_take, Int.toNat_natCast, List.drop_left, List.take_left] at *
    have nD23 : D2 ≠ D3 := fun z => by rw [z, upd_same] at hD3; cases hD3
    refine ⟨_, (by rw [upd_ne nD23, upd_same]), _, upd_same, (by simp only [List.length_map, List.length_cons]; omega), fun D4 hD4 => ⟨_, SqL.of upd_same, fun l o hl ho => ?_⟩⟩
    rw [← List.map_append] at hl ⊢
    refine k l T1 T2 m0 _ (s1.trans ((same_new hD2).trans ((same_new hD3).trans ((same_new hD4).trans (same_new hl))))) eT least (PlT.new ho).sqt
theorem Rws.but {H H' : Hp} {u : Addr} (s : But u H H') {o : HO} (hu : H u = some o) (ho : ∀ xs, o ≠ .tup xs ∧ ∀ ob, o ≠ .frz ob (.tup xs)) {xs : List V} {rs : List (List Nat)} (h : Rn.Rws K H xs rs) : Rn.Rws K H' xs rs :=
  h.keep fun a ys e => by
    rcases e with (e | ⟨ob, e⟩) | e
    · exact .inl (.inl (s _ _ (ne_of e hu fun z => (ho ys).1 z.symm) e))
    · exact .inl (.inr ⟨ob, s _ _ (ne_of e hu fun z => (ho ys).2 ob z.symm) e⟩)
    · exact .inr e
theorem dk_no {l : List (Key × V)} (xs : List V) : HO.dK l ≠ .tup xs ∧ ∀ ob, HO.dK l ≠ .frz ob (.tup xs) := ⟨fun z => (by cases z), fun _ z => (by cases z)⟩
def lrP (K : PySem.W.Frag) (H : Hp) (r FN SD : Addr) (cs : List (Nat × Nat)) (R : List Nat) (i : Nat) : L2.St → Hp → Prop := fun σ H' => Same H H' ∧ ∃ (xs : List V) (rows : List (List Nat)) (S : List Nat) (y3 y4 y5 y6 : Option V), H' FN = some (.lst xs) ∧ Rn.Rws K H' xs rows ∧ H' SD = some (.dK (S.map tK)) ∧
  Seen cs R S rows ∧ S.Nodup ∧ (∀ x ∈ S, (look cs x).isSome = true) ∧ (∀ c ∈ cs.take i, c.1 ∈ S) ∧ rows.length ≤ i ∧ σ = [some (.ref r), some (.ref FN), some (.ref SD), y3, y4, y5, y6]
def liP (K : PySem.W.Frag) (H : Hp) (r FN SD RW : Addr) (cs : List (Nat × Nat)) (xs : List V) (rows : List (List Nat)) (S : List Nat) (c a : Nat) : L2.St → Hp → Prop := fun σ H' => Same H H' ∧ H' FN = some (.lst xs) ∧ Rn.Rws K H' xs rows ∧
  ∃ (row : List Nat) (q : Nat), H' RW = some (.lst (row.map vN)) ∧ H' SD = some (.dK ((S ++ row).map tK)) ∧ Ch cs c row q ∧ row.Nodup ∧ (∀ x ∈ row, x ∉ S) ∧ σ = [some (.ref r), some (.ref FN), some (.ref SD), some (.int c), some (.int a), some (.ref RW), some (.int q)]
def spLR (K : PySem.W.Frag) (C : Addr) : Sp := fun vs H Q _ => ∃ (r : Addr) (ns cs : List (Nat × Nat)), vs = [.ref r] ∧ StA K C H r ns cs ∧
  ∀ (t : Addr) (xs : List V) (rows : List (List Nat)) (R : List Nat) H', Same H H' → PlT H' t xs → Rn.Rws K H' xs rows → (∀ x, x ∈ R ↔ Rch cs (ns.map (·.2)) x) → rows.Nodup → (∀ W ∈ rows, ∃ m, Ring cs m W ∧ m ∉ R) → (∀ m W, Ring cs m W → m ∉ R → W ∈ rows) →
    rows.Pairwise (fun r s => r.headD 0 ≤ s.headD 0) → Q (.ref t) H'
theorem sc_lr : FnScope ["store", "found", "seen", "cell", "arrow", "row", "place"] ["store"] (defScope (top 32)) := ⟨rfl, rfl, rfl, by decide +kernel, rfl, by decide +kernel, by decide +kernel⟩
theorem ok_lr {f C : Addr} {fd : FuncData} (T : Tx mg) (W : StB K C) (F : FD K "lost_rings" (top 32) f fd) {f1 f2 f3 : Addr} {fd1 fd2 fd3 : FuncData} (C1 : Cal P w K mg base CX0 1 "check_store" ["value"] (spChk K C) f1 fd1)
    (C2 : Cal P w K mg base CX0 1 "reached_cells" ["store"] (spRc K C) f2 fd2) (C3 : Cal P w K mg base CX0 1 "ring_from" ["row", "place"] (spRF K) f3 fd3) : FnOk P w K mg base CX0 2 f fd ["store"] (spLR K C) := by
  obtain ⟨gcheck_store, kcheck_store, bcheck_store, Fcheck_store⟩ := C1
  obtain ⟨greached_cells, kreached_cells, breached_cells, Freached_cells⟩ := C2
  obtain ⟨gring_from, kring_from, bring_from, Fring_from⟩ := C3
  refine F.ok sc_lr (fun vs H Q E h => ?_) (fun cdv A outer s H vs Q E hr h => ?_)
  · obtain ⟨_, _, _, rfl, _⟩ := h
    rfl
  · obtain ⟨r, ns, cs, rfl, hst, k⟩ := h
    have nd := sc_lr.nd
    have zl : (1000000 : Nat) ≤ sizeLine := line_big
    refine ⟨_, (pss_cons (ps_expr (pe_call Fcheck_store (hr.mono (by omega)) rfl gcheck_store kcheck_store bcheck_store .nil pass0 (pa_cons (pv 0) pa_nil)))
        (pss_cons (ps_par rfl nd (i := 1) (j := 2) rfl rfl (by decide) rfl rfl (pa_cons (pe_lst pa_nil) (pa_cons (pe_call Freached_cells (hr.mono (by omega)) rfl greached_cells kreached_cells breached_cells .nil pass0 (pa_cons (pv 0) pa_nil)) pa_nil)) rfl)
        (pss_cons (ps_for (passes_of rfl) rfl (pi_tup (Ob.pe_fldK (K := K) rfl (pv 0) rfl)) (pg_tup rfl (pgs_cons (pg_name (i := 3) nd rfl (Or.inl rfl) (hf := Or.inr rfl)) (pgs_cons (pg_name (i := 4) nd rfl (Or.inl rfl) (hf := Or.inr rfl)) pgs_nil))) (pss_cons (ps_par rfl nd (i := 5) (j := 6) rfl rfl (by decide) rfl rfl (pa_cons (pe_lst pa_nil) (pa_cons (pv 3) pa_nil)) rfl)
        (pss_cons (ps_while (passes_of rfl) (PW.pt (pw_and (pt_cmp (pc_din (hu_of hr) (pv 6) (Ob.pe_fldK (K := K) rfl (pv 0) rfl))) (pw_and1 (pt_cmp (pc_dnotin (hu_of hr) (pv 6) (pv 2)))))) (pss_cons (ps_dput (hu_of hr) (pv 2) (pv 6) pe_bl rfl)
        (pss_cons (ps_expr (pe_bm PySem.F.plainAttrs_list PySem.F.slot_list_append PySem.F.type_list_append mt_append (pv 5) (pa_cons (pv 6) pa_nil)))
        (pss_one (ps_set (i := 6) nd rfl (Or.inl rfl) (pe_dget (hu_of hr) (Ob.pe_fldK (K := K) rfl (pv 0) rfl) (pv 6) (fun _ _ => rfl)))))))
        (pss_one (ps_if (pt_cmpR op_in_seq (pv 6) (pv 5) rfl) (pss_one (ps_expr (pe_bm PySem.F.plainAttrs_list PySem.F.slot_list_append PySem.F.type_list_append mt_append (pv 1) (pa_cons (pe_call Fring_from (hr.mono (by omega)) rfl gring_from kring_from bring_from .nil pass0 (pa_cons (pv 5) (pa_cons (pv 6) pa_nil))) pa_nil)))) pss_nil)))))
        (pss_one (ps_ret (pe_callTy (En.call_tupP (K := K) rfl) (by rfl) T.b_tuple (by decide +kernel) (pa_cons (pe_callB (Rn.cr_sortedR (K := K) rfl) (by rfl) T.b_sorted (by decide +kernel) (pa_cons (pv 1) pa_nil)) pa_nil))))))), ?_⟩
    refine sq fun U hU => ?_
    walk_at "rd"
    refine ⟨r, ns, cs, rfl, hst, hU _ _ ?_⟩
    clear hU
    refine sq fun U hU => ?_
    walk_at "rd"
    refine ⟨Nat.zero_le _, fun FN hFN => ?_⟩
    have sF : Same H (upd H FN (.lst [])) := same_new hFN
    have fF : upd H FN (.lst []) FN = some (.lst []) := upd_same
    generalize upd H FN (.lst []) = H1 at sF fF ⊢
    refine ⟨r, ns, cs, rfl, hst.up sF, fun SD S0 H2 s2 hSD0 hSD nS0 rS0 hS0 clS0 => hU _ _ ?_⟩
    clear hU
    have nFS : FN ≠ SD := ne_of_none fF hSD0
    have zS : H SD = none := sF.free hSD0
    have hF2 := s2 _ _ fF
    have s02 := sF.trans s2
    have clS : ∀ x ∈ S0, ∀ y, look cs x = some y → (look cs y).isSome = true → y ∈ S0 := fun x hx y hy ky => (clS0 x hx y hy ky).elim id fun z => nomatch z
    have memR : ∀ x, x ∈ S0 ↔ Rch cs (ns.map (·.2)) x := fun x => ⟨rS0 x, fun ⟨p, hp, U, e, c⟩ => c.stay clS (hS0 p hp) x (List.mem_append_right _ (List.mem_singleton.mpr rfl))⟩
    have kS0 : ∀ x ∈ S0, (look cs x).isSome = true := fun x hx => by
      obtain ⟨p, _, U, e, c⟩ := rS0 x hx
      exact c.key x (List.mem_append_right _ (List.mem_singleton.mpr rfl))
    obtain ⟨dx, an, ac, dp, da, hr0, hn, hc, hpd, ha, okn, okc⟩ := hst
    obtain ⟨fn, fc, fp, fa, fl⟩ := StA.fa W (s02 _ _ hr0)
    obtain ⟨xs0, pl, prs⟩ := hc
    have lx := prs.len
    rw [List.length_map] at lx
    have o1 := okc.1
    refine sq fun U hU => ?_
    walk_at "rd"
    refine ⟨_, fc, ac, rfl, ⟨_, sqt_up s02 pl.sqt⟩, for_t (xs := xs0) (lrP K H r FN SD cs S0) ⟨s02, [], [], S0, none, none, none, none, hF2, .nil, hSD, .start clS, nS0, kS0, fun _ z => (by simp at z), Nat.le_refl _, rfl⟩ (fun i σ H' _ h => sqt_up h.1 pl.sqt) ?_ ?_⟩
    · rintro i x σ H' hi ⟨hs, xs, rows, S, y3, y4, y5, y6, hF, hR, hS, seen, nS, kS, allS, lrw, rfl⟩
      obtain ⟨kv, b, hkv, rfl, eb⟩ := (prs.up hs).atV hi
      obtain ⟨c, hcs, rfl⟩ := map_at hkv
      have eb : SqT K H' b [.int c.1, .int c.2] := eb
      have il := (List.getElem?_eq_some_iff.mp hcs).1
      walk_at "rd"
      refine ⟨_, eb, rfl, _, _, rfl, _, _, rfl, rfl, ?_⟩
      refine ⟨Nat.zero_le _, fun RW hRW => ?_⟩
      have nRF : RW ≠ FN := fun z => by rw [z, hF] at hRW; cases hRW
      have nRS : RW ≠ SD := fun z => by rw [z, hS] at hRW; cases hRW
      have zR : H RW = none := hs.free hRW
      refine Bw.while_b2 (liP K H r FN SD RW cs xs rows S c.1 c.2) (fun _ H' => cs.length - (match H' SD with | some (.dK l) => l.length | _ => 0)) ⟨hs.trans (same_new hRW), same_new hRW _ _ hF, hR.up (same_new hRW), [], c.1, upd_same, (by rw [List.append_nil]; exact same_new hRW _ _ hS), .nil _, List.nodup_nil, fun _ z => (nomatch z), rfl⟩ ?_
      rintro σ H3 ⟨hs3, hF3, hR3, row, q, hRW3, hS3, ch, nrow, dis, rfl⟩ QB qt qf
      obtain ⟨_, _, _, fa3, _⟩ := StA.fa W (hs3 _ _ hr0)
      obtain ⟨o, ho, eo⟩ := get_t hS3 q
      walk_at "rd"
      refine ⟨_, fa3, da, rfl, _, get_c (hs3 _ _ ha) q, ?_⟩
      have endS : ((look cs q).isSome = true → q ∈ S ∨ q ∈ row) → QB false H3 := fun ex => by
        refine qf _ ?_
        have c1S : c.1 ∈ S ++ row := by
          have kc : (look cs c.1).isSome = true := look_some.mpr ⟨c, List.mem_of_getElem? hcs, rfl⟩
          cases ch with
          | nil => exact (ex kc).elim (fun z => List.mem_append_left _ z) fun z => nomatch z
          | cons _ _ => exact List.mem_append_right _ (List.mem_cons_self ..)
        have nS' : (S ++ row).Nodup := by
          rw [List.nodup_append]
          exact ⟨nS, nrow, fun a ha b hb z => dis b hb (z ▸ ha)⟩
        have kS' : ∀ x ∈ S ++ row, (look cs x).isSome = true := fun x hx => (List.mem_append.mp hx).elim (kS x) (ch.key x)
        have all' : ∀ d ∈ cs.take (i + 1), d.1 ∈ S ++ row := fun d hd => by
          rw [List.take_succ, hcs] at hd
          rcases List.mem_append.mp hd with hd | hd
          · exact List.mem_append_left _ (allS d hd)
          · have hd : d ∈ [c] := hd
            rw [List.mem_singleton.mp hd]
            exact c1S
        walk_at "rd"
        refine ⟨RW, row.map vN, rfl, .inl (SqL.of hRW3), rfl, flat_N _, ?_⟩
        rw [if_neg (by decide), inV_N]
        refine ⟨_, rfl, ?_⟩
        have lr : row.length ≤ 500 := Nat.le_trans (few nrow (ch.key)) okc.1
        by_cases hq : q ∈ row
        · rw [decide_eq_true hq, if_pos rfl]
          obtain ⟨A, B, rfl⟩ := List.append_of_mem hq
          refine ⟨.inl ⟨rfl, _, SqL.of hF3⟩, RW, A, B, q, rfl, SqL.of hRW3, nrow, lr, fun t T1 T2 m0 H4 s4 eT least ht => ?_⟩
          obtain ⟨rg, seen'⟩ := seen.ring ch nrow dis eT least
          have hF4 := s4 _ _ hF3
          have lxs := hR3.len
          refine ⟨FN, xs, _, rfl, rfl, hF4, by omega, ?_⟩
          have b5 : But FN H4 (upd H4 FN (.lst (xs ++ [V.ref t]))) := But.put
          have row1 : Rn.Rws K H4 [V.ref t] [m0 :: T2 ++ T1] := .cons ht .nil
          refine ⟨fun b o e => b5 b o (ne_of_none e hFN) (s4 _ _ (hs3 _ _ e)), xs ++ [V.ref t], rows ++ [m0 :: T2 ++ T1], S ++ (A ++ q :: B), _, _, _, _, upd_same, Rws.but b5 hF4 lst_no ((hR3.up s4).append row1), b5 _ _ (Ne.symm nFS) (s4 _ _ hS3), seen', nS', kS', all', by rw [List.length_append, List.length_singleton]; omega, rfl⟩
        · rw [decide_eq_false hq, if_neg (by decide)]
          exact ⟨hs3, xs, rows, S ++ row, _, _, _, _, hF3, hR3, hS3, seen.skip ch nrow dis ex hq, nS', kS', all', by omega, rfl⟩
      cases el : look cs q with
      | none =>
        rw [Option.map_none, if_neg (by decide)]
        exact endS (fun z => by rw [el] at z; cases z)
      | some v =>
        rw [Option.map_some, if_pos (by rfl)]
        refine ⟨o, ho, ?_⟩
        rw [eo]
        by_cases hq : q ∈ S ++ row
        · rw [decide_eq_true hq]
          exact endS (fun _ => List.mem_append.mp hq)
        · rw [decide_eq_false hq]
          refine qt _ ?_
          have kq : (look cs q).isSome = true := by rw [el]; rfl
          have nS' : (S ++ (row ++ [q])).Nodup := by
            rw [← List.append_assoc, List.nodup_append]
            refine ⟨by rw [List.nodup_append]; exact ⟨nS, nrow, fun a ha b hb z => dis b hb (z ▸ ha)⟩, by simp, fun a ha b hb z => ?_⟩
            rw [List.mem_singleton.mp hb] at z
            exact hq (z ▸ ha)
          have keys : ∀ x ∈ S ++ (row ++ [q]), (look cs x).isSome = true := fun x hx => by
            simp only [List.mem_append, List.mem_singleton] at hx
            rcases hx with hx | hx | rfl
            · exact kS x hx
            · exact ch.key x hx
            · exact kq
          have fw := few nS' keys
          rw [List.length_append, List.length_append, List.length_singleton] at fw
          refine sq fun U3 hU3 => ?_
          walk_at "rd"
          refine ⟨_, .k (k := Sum.inl (q : Int)) hS3 (by rw [List.length_map, List.length_append]; omega), hU3 _ _ ?_⟩
          clear hU3
          have eput : putK ((S ++ row).map tK) (.inl (q : Int)) (.bl true) = (S ++ (row ++ [q])).map tK := by rw [t_put, if_neg hq, List.append_assoc]
          rw [eput]
          have b4 : But SD H3 (upd H3 SD (.dK ((S ++ (row ++ [q])).map tK))) := But.put
          have s4 : Same H (upd H3 SD (.dK ((S ++ (row ++ [q])).map tK))) := fun b o e => b4 b o (ne_of_none e zS) (hs3 _ _ e)
          have hF4 := b4 _ _ nFS hF3
          have hR4 := Rws.but b4 hS3 dk_no hR3
          have hRW4 := b4 _ _ nRS hRW3
          have hS4 : upd H3 SD (.dK ((S ++ (row ++ [q])).map tK)) SD = some (.dK ((S ++ (row ++ [q])).map tK)) := upd_same
          generalize upd H3 SD (.dK ((S ++ (row ++ [q])).map tK)) = H4 at b4 s4 hF4 hR4 hRW4 hS4 ⊢
          refine sq fun U3 hU3 => ?_
          walk_at "rd"
          refine ⟨.inl ⟨rfl, _, SqL.of hRW4⟩, RW, _, _, rfl, rfl, hRW4, by rw [List.length_map]; omega, hU3 _ _ ?_⟩
          clear hU3
          have erow : row.map vN ++ [vN q] = (row ++ [q]).map vN := by rw [List.map_append]; rfl
          rw [erow]
          have b5 : But RW H4 (upd H4 RW (.lst ((row ++ [q]).map vN))) := But.put
          have s5 : Same H (upd H4 RW (.lst ((row ++ [q]).map vN))) := fun b o e => b5 b o (ne_of_none e zR) (s4 _ _ e)
          have hF5 := b5 _ _ (Ne.symm nRF) hF4
          have hR5 := Rws.but b5 hRW4 lst_no hR4
          have hS5 := b5 _ _ (Ne.symm nRS) hS4
          have hRW5 : upd H4 RW (.lst ((row ++ [q]).map vN)) RW = some (.lst ((row ++ [q]).map vN)) := upd_same
          generalize upd H4 RW (.lst ((row ++ [q]).map vN)) = H5 at b5 s5 hF5 hR5 hS5 hRW5 ⊢
          obtain ⟨_, _, _, fa5, _⟩ := StA.fa W (s5 _ _ hr0)
          have gv := get_c (s5 _ _ ha) q
          rw [el] at gv
          walk_at "rd"
          refine ⟨_, fa5, da, rfl, _, gv, ⟨s5, hF5, hR5, row ++ [q], v, hRW5, hS5, ch.snoc el, (List.nodup_append.mp nS').2.1, fun x hx hxS => ?_, rfl⟩, ?_⟩
          · exact (List.nodup_append.mp nS').2.2 x hxS x hx rfl
          · rw [hS5, hS3]
            show cs.length - ((S ++ (row ++ [q])).map tK).length < cs.length - ((S ++ row).map tK).length
            simp only [List.length_map, List.length_append, List.length_singleton]
            omega
    · rintro σ H' ⟨hs, xs, rows, S, y3, y4, y5, y6, hF, hR, hS, seen, nS, kS, allS, lrw, rfl⟩
      refine hU _ _ ?_
      clear hU
      walk_at "rd"
      rw [lx, List.take_length] at allS
      have ne : ∀ r ∈ rows, r ≠ [] := fun r hr => by
        obtain ⟨m, g, _⟩ := seen.ok r hr
        exact g.cyc.ne
      refine ⟨FN, xs, rows, rfl, SqL.of hF, hR, ne, fun zs qs D pq wq hz hD => ⟨D, rfl, zs, SqL.of upd_same, fun l o hl ho => ?_⟩⟩
      refine k l zs qs S0 _ (hs.trans ((same_new hD).trans (same_new hl))) (PlT.new ho) ((hz.up (same_new hD)).up (same_new hl)) memR (pq.nodup_iff.mpr seen.nd) (fun W hW => ?_) (fun m W g n => ?_) wq
      · obtain ⟨m, g, n, _⟩ := seen.ok W (pq.mem_iff.mp hW)
        exact ⟨m, g, n⟩
      · refine pq.mem_iff.mpr (seen.all m W g n ?_)
        obtain ⟨c, hc, e⟩ := look_some.mp g.cyc.key
        rw [← e]
        exact allS c hc
end
end K79

set_option Elab.async false
set_option linter.all false
set_option maxRecDepth 100000
set_option maxHeartbeats 4000000
namespace K79
open PySem PySem.Spec PyProof.Rows L2 Rd Dt Dq Pk Ln En Sx Sy So Sr Lk Rq
local macro_rules | `(tactic| walk_at "rd") => `(tactic| try simp only [↓Lk.tLockE_, ↓Lk.tLock_, ↓Lk.tLc_keys, ↓Lk.tFor_keys, ↓Sy.tTupP_, ↓Sy.rTupP_, ↓Sy.rCatP_, ↓Sy.rSlP_, ↓Sy.rDictT_, ↓Sy.tDGet_, ↓Sy.tDGet1_, ↓Sy.tDIn_, ↓Sy.tDNotIn_, ↓Sy.tMeth_, ↓Sy.tMethKw_, ↓Sy.rSortedS_, ↓Sx.rIsT_, ↓En.tFor_enumT, ↓Sy.tFor_enumL, ↓Rv.tMakeKw_, ↓Prp.tProp_, ↓Lo.tBits_, ↓Lo.tJs_n, ↓Lo.tJs_c, ↓Lo.tFmt_, ↓Lo.gFld_, ↓Lo.tMake_, ↓Lo.rOwn_, ↓Rg.tFor_range3, ↓Rg.tLc_range3, ↓Rg.tLstC_, ↓Rg.tLc_rngV, ↓Le.rNeLE_, ↓Le.rEqLE_, ↓Ls.tLc_str, ↓Ls.sDPut_, ↓Rl.rReprL_, ↓Rl.tCallKS_, ↓Ob.tFld_, ↓Ob.sFld_, ↓tVar_, ↓tC_, ↓tM1, ↓tDNewK_, ↓tOp_, ↓tUn_, ↓rI_, ↓rI0_, ↓rU_, ↓eq_ii, ↓ne_ii, ↓eq_ss, ↓ne_ss, ↓eq_bb, ↓ne_bb, ↓tAndV_, ↓tOrV_, ↓tNotV_, ↓tIf_, ↓tTest_, ↓tB_, ↓tAnd_, ↓tOr_, ↓tNot_, ↓tChain_, ↓tNil_, ↓tCons_, ↓tTup_, ↓tLst_, ↓tCB_, ↓tCall_, ↓tSeq_, ↓tNext_, ↓tRet_, ↓tRetN_, ↓tDrop_, ↓tBreak_, ↓tNever_, ↓tIfS_, ↓tAsg_, ↓gName_, ↓gTup_, ↓gCons_, ↓gNil_, ↓gSub_, ↓tPar_, ↓tPar3_, ↓tSl_, ↓tNoPart_, ↓tPart_, ↓tBM_, ↓tFor_range1, ↓tFor_range2, ↓tFor_list, ↓tFor_tup, L2.start, List.headD_cons, List.headD_nil, List.tail_cons, List.map_cons, List.map_nil, List.length_cons, List.length_nil, List.replicate, List.append_nil, List.nil_append, List.cons_append, List.getElem?_cons_zero, List.getElem?_cons_succ, List.set_cons_zero, List.set_cons_succ, Option.some.injEq, V.int.injEq, V.bl.injEq, V.str.injEq, V.ref.injEq, exists_eq_left, exists_eq_left', exists_eq_right, exists_eq, exists_and_left, and_true, true_and, decide_eq_true_eq, Nat.reduceAdd, Nat.reduceSub, Nat.add_zero, Nat.zero_add, List.cons.injEq, Bool.not_eq_true', decide_eq_false_iff_not, eq_self, reduceCtorEq, Bool.false_eq_true, if_true, if_false, ite_true, ite_false, and_self, ↓tLc_range1, ↓tLc_range2, ↓tLc_list, ↓tLc_tup, ↓tYes_, wipe0, wipe1, ↓tCallS_, ↓rIxL_, ↓rIxT_, ↓rSlL_, ↓rCat_, ↓rSetL_, ↓rRep_, ↓rGcd_, ↓tCallK_, ↓gUnl_, ↓tRaise_, decide_true, decide_false, not_true_eq_false, not_false_eq_true, false_and, or_false, false_or, and_false, and_assoc, exists_const, forall_const, forall_eq'])
section
variable {P : Program} {w : World} {K : PySem.W.Frag} {mg : Str → Option Value} {base : Heap}
/-! ### the law's own ways and rings -/
theorem look_srt {ds : List (Nat × Nat)} (nd : (ds.map (·.1)).Nodup) (x : Nat) : look (srt ds) x = look ds x := by
  cases e : look ds x with
  | none => exact Sr.look_none.mpr fun c hc => Sr.look_none.mp e c ((srt_perm ds).mem_iff.mp hc)
  | some v =>
    have k : (look ds x).isSome = true := by rw [e]; rfl
    obtain ⟨c, hc, rfl⟩ := look_some.mp k
    rw [look_mem nd hc] at e
    rw [look_mem (((srt_perm ds).map (·.1)).nodup_iff.mpr nd) ((srt_perm ds).mem_iff.mpr hc)]
    exact e
theorem get_s {H : Hp} {dc : Addr} {ds : List (Nat × Nat)} (h : H dc = some (.dK (ds.map ck))) (nd : (ds.map (·.1)).Nodup) (p : Nat) : DGet H dc (.int p) ((look (srt ds) p).map fun v : Nat => V.int v) := by
  rw [look_srt nd]
  exact get_c h p
def spWay (K : PySem.W.Frag) : Sp := fun vs H Q _ => ∃ (m : Nat) (a dn dc : Addr) (ns ds : List (Nat × Nat)) (p : Nat), vs = [.ref a, .int p] ∧ LSt m H a dn dc ns ds ∧ m ≤ 10 ∧
  ∀ (t D : Addr) (W : List Nat) (e : Nat) H', Same H H' → H D = none → SqT K H' t [.ref D, .int e] → H' D = some (.lst (W.map vN)) → Way (srt ds) p W e → Q (.ref t) H'
def wyP (H : Hp) (a D : Addr) (cs : List (Nat × Nat)) (p : Nat) (i : Nat) : L2.St → Hp → Prop := fun σ H' => Same H H' ∧ ∃ (W : List Nat) (q : Nat) (y : Option V), H' D = some (.lst (W.map vN)) ∧ Ch cs p W q ∧ W.Nodup ∧ W.length = i ∧ σ = [some (.ref a), some (.int q), some (.ref D), y]
theorem permN {ms : List Int} {R : List Nat} (p : ms.Perm (R.map Int.ofNat)) : ∃ R' : List Nat, R'.Perm R ∧ ms = R'.map Int.ofNat := by
  refine ⟨ms.map Int.toNat, ?_, ?_⟩
  · have := p.map Int.toNat
    rw [List.map_map] at this
    rwa [show (Int.toNat ∘ Int.ofNat) = (id : Nat → Nat) from rfl, List.map_id] at this
  · rw [List.map_map]
    conv => lhs; rw [← List.map_id ms]
    refine List.map_congr_left fun z hz => ?_
    obtain ⟨n, _, rfl⟩ := List.mem_map.mp (p.mem_iff.mp hz)
    rfl
theorem take_all {α : Type _} {l : List α} {n : Nat} (h : n = l.length) : l.take n = l := by rw [h, List.take_length]
theorem sc_way : FnScope ["_law_store_here", "_law_at", "_law_found", "_law_turn"] ["_law_store_here", "_law_at"] (defScope (top 42)) := ⟨rfl, rfl, rfl, by decide +kernel, rfl, by decide +kernel, by decide +kernel⟩
theorem ok_way {f : Addr} {fd : FuncData} (T : Tx mg) (F : FD K "_law_way" (top 42) f fd) : FnOk P w K mg base CX0 1 f fd ["_law_store_here", "_law_at"] (spWay K) := by
  refine F.ok sc_way (fun vs H Q E h => ?_) (fun cdv A outer s H vs Q E hr h => ?_)
  · obtain ⟨_, _, _, _, _, _, _, rfl, _⟩ := h
    rfl
  · obtain ⟨m, a, dn, dc, ns, ds, p, rfl, ⟨ha, hdn, hdc, okn, okd⟩, hm, k⟩ := h
    have nd := sc_way.nd
    have zl : (1000000 : Nat) ≤ sizeLine := line_big
    have lds := okd.1
    refine ⟨_, (pss_cons (ps_set (i := 2) nd rfl (Or.inl rfl) (pe_lst pa_nil))
        (pss_cons (ps_for (passes_of rfl) rfl (pi_range1 rfl T.b_range (pa_cons (pe_op op_add (pe_callB call_lenD (by rfl) T.b_len PySem.boot_len (pa_cons (pe_ix (r := rIxL K) ix_list (pv 0) pe_int (fun _ _ => rfl)) pa_nil)) pe_int) pa_nil)) (pg_name (i := 3) nd rfl (Or.inl rfl)) (pss_cons (ps_if (PW.pt (pw_or (pt_cmp (pc_dnotin (hu_of hr) (pv 1) (pe_ix (r := rIxL K) ix_list (pv 0) pe_int (fun _ _ => rfl)))) (pw_or1 (pt_cmpR op_in_seq (pv 1) (pv 2) rfl)))) (pss_one (ps_ret (pe_tup (pa_cons (pv 2) (pa_cons (pv 1) pa_nil))))) pss_nil)
        (pss_cons (ps_expr (pe_bm PySem.F.plainAttrs_list PySem.F.slot_list_append PySem.F.type_list_append mt_append (pv 2) (pa_cons (pv 1) pa_nil)))
        (pss_one (ps_set (i := 1) nd rfl (Or.inl rfl) (pe_dget (hu_of hr) (pe_ix (r := rIxL K) ix_list (pv 0) pe_int (fun _ _ => rfl)) (pv 1) (fun _ _ => rfl)))))))
        (pss_one (ps_ret (pe_tup (pa_cons (pv 2) (pa_cons (pv 1) pa_nil))))))), ?_⟩
    refine sq fun U hU => ?_
    walk_at "rd"
    refine ⟨Nat.zero_le _, fun D hD => hU _ _ ?_⟩
    clear hU
    have s1 : Same H (upd H D (.lst [])) := same_new hD
    have f1 : upd H D (.lst []) D = some (.lst []) := upd_same
    generalize upd H D (.lst []) = H1 at s1 f1 ⊢
    refine sq fun U hU => ?_
    walk_at "rd"
    refine ⟨_, SqL.of (s1 _ _ ha), _, rfl, dc, rfl, _, s1 _ _ hdc, by omega, by rw [List.length_map]; omega, for_r (wyP H a D (srt ds) p) ⟨s1, [], p, none, f1, .nil _, List.nodup_nil, rfl, rfl⟩ ?_ ?_⟩
    · rintro i σ H' hi ⟨hs, W, q, y, hL, ch, nW, lW, rfl⟩
      rw [List.length_map] at hi
      have done : ((look (srt ds) q).isSome = true → q ∈ W) → ∀ t, H' t = none → Q (.ref t) (upd H' t (.tup [.ref D, .int q])) := fun ex t ht => k t D W q _ (hs.trans (same_new ht)) hD (SqT.of upd_same) (same_new ht _ _ hL) ⟨ch, nW, ex⟩
      refine sq fun U2 hU2 => ?_
      walk_at "rd"
      refine ⟨_, SqL.of (hs _ _ ha), _, rfl, dc, rfl, _, get_s (hs _ _ hdc) okd.2.2 q, ?_⟩
      cases el : look (srt ds) q with
      | none =>
        rw [Option.map_none, if_pos (by rfl)]
        exact ⟨by omega, done fun z => by rw [el] at z; cases z⟩
      | some v =>
        rw [Option.map_some, if_neg (by simp)]
        refine ⟨D, W.map vN, rfl, .inl (SqL.of hL), rfl, flat_N _, ?_⟩
        rw [if_neg (by decide), inV_N]
        refine ⟨_, rfl, ?_⟩
        by_cases hq : q ∈ W
        · rw [decide_eq_true hq, if_pos rfl]
          exact ⟨by omega, done fun _ => hq⟩
        · rw [decide_eq_false hq, if_neg (by decide)]
          refine hU2 _ _ ?_
          clear hU2
          refine sq fun U2 hU2 => ?_
          walk_at "rd"
          refine ⟨.inl ⟨rfl, _, SqL.of hL⟩, D, _, _, rfl, rfl, hL, by rw [List.length_map]; omega, hU2 _ _ ?_⟩
          clear hU2
          have eW : W.map vN ++ [vN q] = (W ++ [q]).map vN := by rw [List.map_append]; rfl
          rw [eW]
          have s5 : Same H (upd H' D (.lst ((W ++ [q]).map vN))) := fun b o e => by rw [upd_ne (ne_of_none e hD)]; exact hs _ _ e
          have hL5 : upd H' D (.lst ((W ++ [q]).map vN)) D = some (.lst ((W ++ [q]).map vN)) := upd_same
          generalize upd H' D (.lst ((W ++ [q]).map vN)) = H5 at s5 hL5 ⊢
          have gv := get_s (s5 _ _ hdc) okd.2.2 q
          rw [el] at gv
          walk_at "rd"
          refine ⟨_, SqL.of (s5 _ _ ha), _, rfl, dc, rfl, _, gv, s5, W ++ [q], v, _, hL5, ch.snoc el, ?_, by rw [List.length_append, lW]; rfl, rfl⟩
          rw [List.nodup_append]
          refine ⟨nW, by simp, fun a ha b hb z => ?_⟩
          rw [List.mem_singleton.mp hb] at z
          exact hq (z ▸ ha)
    · rintro σ H' ⟨hs, W, q, y, hL, ch, nW, lW, rfl⟩
      have := few nW ch.key
      rw [srt_len] at this
      rw [List.length_map] at lW
      omega
/-- the law's reached cells: those on the ways of the names -/
def OnWay (cs : List (Nat × Nat)) (hs : List Nat) (x : Nat) : Prop := ∃ p ∈ hs, ∃ W e, Way cs p W e ∧ x ∈ W
theorem OnWay.mono {cs : List (Nat × Nat)} {hs hs' : List Nat} (h : ∀ p ∈ hs, p ∈ hs') {x : Nat} (o : OnWay cs hs x) : OnWay cs hs' x := by
  obtain ⟨p, hp, q⟩ := o
  exact ⟨p, h p hp, q⟩
theorem onway_rch {cs : List (Nat × Nat)} {hs R : List Nat} (h1 : ∀ x ∈ R, OnWay cs hs x) (h2 : ∀ p ∈ hs, ∃ W e, Way cs p W e ∧ ∀ x ∈ W, x ∈ R) (x : Nat) : x ∈ R ↔ Rch cs hs x := by
  constructor
  · intro hx
    obtain ⟨p, hp, W, e, w, hW⟩ := h1 x hx
    obtain ⟨A, B, rfl⟩ := List.append_of_mem hW
    have e1 : A ++ x :: B = (A ++ [x]) ++ B := by rw [List.append_assoc]; rfl
    have c := w.ch
    rw [e1] at c
    obtain ⟨m, c1, _⟩ := c.cut
    exact ⟨p, hp, A, m, c1⟩
  · rintro ⟨p, hp, U, e, c⟩
    obtain ⟨W, f, w, hW⟩ := h2 p hp
    exact hW x (c.stay (fun y hy z hz kz => w.closed hy hz kz) w.first x (List.mem_append_right _ (List.mem_singleton.mpr rfl)))
def rlP (H : Hp) (a D : Addr) (cs : List (Nat × Nat)) (hs : List Nat) (i : Nat) : L2.St → Hp → Prop := fun σ H' => Same H H' ∧ ∃ (R : List Nat) (y z : Option V), H' D = some (.lst (R.map vN)) ∧ R.Nodup ∧ (∀ x ∈ R, OnWay cs (hs.take i) x) ∧ (∀ p ∈ hs.take i, ∃ W e, Way cs p W e ∧ ∀ x ∈ W, x ∈ R) ∧ σ = [some (.ref a), some (.ref D), y, z]
def rmP (H : Hp) (a D : Addr) (cs : List (Nat × Nat)) (R W : List Nat) (y : Option V) (j : Nat) : L2.St → Hp → Prop := fun σ H' => Same H H' ∧ ∃ (R' : List Nat) (z : Option V), H' D = some (.lst (R'.map vN)) ∧ R'.Nodup ∧ (∀ x, x ∈ R' ↔ x ∈ R ∨ x ∈ W.take j) ∧ σ = [some (.ref a), some (.ref D), y, z]
def spLRc (K : PySem.W.Frag) : Sp := fun vs H Q _ => ∃ (m : Nat) (a dn dc : Addr) (ns ds : List (Nat × Nat)), vs = [.ref a] ∧ LSt m H a dn dc ns ds ∧ m ≤ 10 ∧
  ∀ (D : Addr) (R : List Nat) H', Same H H' → H' D = some (.lst (R.map vN)) → (∀ x ∈ R, OnWay (srt ds) (ns.map (·.2)) x) → (∀ p ∈ ns.map (·.2), ∃ W e, Way (srt ds) p W e ∧ ∀ x ∈ W, x ∈ R) → Q (.ref D) H'
theorem sc_lrc : FnScope ["_law_store_here", "_law_found", "_law_letter", "_law_at"] ["_law_store_here"] (defScope (top 43)) := ⟨rfl, rfl, rfl, by decide +kernel, rfl, by decide +kernel, by decide +kernel⟩
theorem ok_lrc {f : Addr} {fd : FuncData} (T : Tx mg) (F : FD K "_law_reached" (top 43) f fd) {f1 : Addr} {fd1 : FuncData} (C1 : Cal P w K mg base CX0 1 "_law_way" ["_law_store_here", "_law_at"] (spWay K) f1 fd1) : FnOk P w K mg base CX0 2 f fd ["_law_store_here"] (spLRc K) := by
  obtain ⟨g_law_way, k_law_way, b_law_way, F_law_way⟩ := C1
  refine F.ok sc_lrc (fun vs H Q E h => ?_) (fun cdv A outer s H vs Q E hr h => ?_)
  · obtain ⟨_, _, _, _, _, _, rfl, _⟩ := h
    rfl
  · obtain ⟨m, a, dn, dc, ns, ds, rfl, hls, hm, k⟩ := h
    have nd := sc_lrc.nd
    have zl : (1000000 : Nat) ≤ sizeLine := line_big
    obtain ⟨ha, hdn, hdc, okn, okd⟩ := id hls
    have ln := okn.2.1
    have lds := okd.1
    refine ⟨_, (pss_cons (ps_set (i := 1) nd rfl (Or.inl rfl) (pe_lst pa_nil))
        (pss_cons (ps_for (passes_of rfl) rfl (pi_list (pe_callB (call_sortedD rfl) (by rfl) T.b_sorted (by decide +kernel) (pa_cons (pe_ix (r := rIxL K) ix_list (pv 0) pe_int (fun _ _ => rfl)) pa_nil))) (pg_name (i := 2) nd rfl (Or.inl rfl)) (pss_one (ps_for (passes_of rfl) rfl (pi_list (pe_ix (r := rIxT K) ix_tup (pe_call F_law_way (hr.mono (by omega)) rfl g_law_way k_law_way b_law_way .nil pass0 (pa_cons (pv 0) (pa_cons (pe_dget (hu_of hr) (pe_ix (r := rIxL K) ix_list (pv 0) pe_int (fun _ _ => rfl)) (pv 2) (fun _ _ => rfl)) pa_nil))) pe_int (fun _ _ => rfl))) (pg_name (i := 3) nd rfl (Or.inl rfl)) (pss_one (ps_if (pt_cmpR op_notIn_seq (pv 3) (pv 1) rfl) (pss_one (ps_expr (pe_bm PySem.F.plainAttrs_list PySem.F.slot_list_append PySem.F.type_list_append mt_append (pv 1) (pa_cons (pv 3) pa_nil)))) pss_nil)))))
        (pss_one (ps_ret (pe_callB cr_sorted (by rfl) T.b_sorted (by decide +kernel) (pa_cons (pv 1) pa_nil)))))), ?_⟩
    refine sq fun U hU => ?_
    walk_at "rd"
    refine ⟨Nat.zero_le _, fun D hD => hU _ _ ?_⟩
    clear hU
    have s1 : Same H (upd H D (.lst [])) := same_new hD
    have f1 : upd H D (.lst []) D = some (.lst []) := upd_same
    generalize upd H D (.lst []) = H1 at s1 f1 ⊢
    refine sq fun U hU => ?_
    walk_at "rd"
    refine ⟨_, SqL.of (s1 _ _ ha), _, rfl, dn, rfl, _, .inl (s1 _ _ hdn), _, keys_n ns, by rw [List.length_map]; omega, fun ys p py sy hp => ?_⟩
    rw [sorted_names okn py sy]
    have s2 : Same H1 (upd H1 p (.lst ((ns.map fun n => L1 n.1).map V.str))) := same_new hp
    have f2 : upd H1 p (.lst ((ns.map fun n => L1 n.1).map V.str)) p = some (.lst ((ns.map fun n => L1 n.1).map V.str)) := upd_same
    have npD : p ≠ D := fun z => by rw [z, f1] at hp; cases hp
    have zp := s1.free hp
    have h2D := s2 _ _ f1
    generalize upd H1 p (.lst ((ns.map fun n => L1 n.1).map V.str)) = H2 at s2 f2 h2D ⊢
    have s02 := s1.trans s2
    refine ⟨⟨_, SqL.of f2⟩, for_l (K := K) (a := p) (xs := (ns.map fun n => L1 n.1).map V.str) (fun i σ H' => rlP H a D (srt ds) (ns.map (·.2)) i σ H' ∧ H' p = some (.lst ((ns.map fun n => L1 n.1).map V.str))) ⟨⟨s02, [], none, none, h2D, List.nodup_nil, fun _ z => (nomatch z), fun _ z => (by simp at z), rfl⟩, f2⟩ (fun i σ H' _ h => SqL.of h.2) ?_ ?_⟩
    · rintro i x σ H' hi ⟨⟨hs, R, y, z, hR, nR, oR, cR, rfl⟩, hp'⟩
      obtain ⟨x, hx, rfl⟩ := map_at hi
      obtain ⟨n, hn, rfl⟩ := map_at hx
      have mn := List.mem_of_getElem? hn
      walk_at "rd"
      refine ⟨_, SqL.of (hs _ _ ha), _, rfl, dn, rfl, _, get_n (hs _ _ hdn) okn.2.2.2 mn, ?_⟩
      refine ⟨m, a, dn, dc, ns, ds, n.2, rfl, ⟨hs _ _ ha, hs _ _ hdn, hs _ _ hdc, okn, okd⟩, hm, fun t D2 W e H3 s3 hD2 ht hW ww => ?_⟩
      have hs3 := hs.trans s3
      have hR3 := s3 _ _ hR
      have hp3 := s3 _ _ hp'
      have nDD : D2 ≠ D := fun q => by rw [q, hR] at hD2; cases hD2
      have nDp : p ≠ D := npD
      have zD : H D = none := hD
      have eT : (ns.map (·.2)).take (i + 1) = (ns.map (·.2)).take i ++ [n.2] := by
        rw [List.take_succ, List.getElem?_map, hn]
        rfl
      refine ⟨t, rfl, _, ht, _, rfl, D2, rfl, ⟨_, SqL.of hW⟩, for_l (K := K) (a := D2) (xs := W.map vN) (fun j σ H' => rmP H a D (srt ds) R W (some (.str (L1 n.1))) j σ H' ∧ H' p = some (.lst ((ns.map fun n => L1 n.1).map V.str)) ∧ H' D2 = some (.lst (W.map vN))) ⟨⟨hs3, R, z, hR3, nR, fun x => by simp, rfl⟩, hp3, hW⟩ (fun j σ H' _ h => SqL.of h.2.2) ?_ ?_⟩
      · rintro j x σ H4 hj ⟨⟨s4, R', z', hR', nR', iff, rfl⟩, hp4, hW4⟩
        obtain ⟨x, hx, rfl⟩ := map_at hj
        have mx := List.mem_of_getElem? hx
        have eW : W.take (j + 1) = W.take j ++ [x] := by
          rw [List.take_succ, hx]
          rfl
        walk_at "rd"
        refine ⟨D, R'.map vN, rfl, .inl (SqL.of hR'), rfl, flat_N _, ?_⟩
        rw [if_pos rfl, inV_N]
        refine ⟨_, rfl, ?_⟩
        by_cases hq : x ∈ R'
        · rw [decide_eq_true hq, if_neg (by decide)]
          refine ⟨⟨s4, R', _, hR', nR', fun y => ?_, rfl⟩, hp4, hW4⟩
          rw [eW, iff y, List.mem_append, List.mem_singleton]
          constructor
          · rintro (h | h)
            · exact .inl h
            · exact .inr (.inl h)
          · rintro (h | h | rfl)
            · exact .inl h
            · exact .inr h
            · exact (iff y).mp hq
        · rw [decide_eq_false hq, if_pos (by decide)]
          have lR : R'.length ≤ 63 := by
            have := few (cs := srt ds) nR' fun x hx => by
              rcases (iff x).mp hx with h | h
              · obtain ⟨q, _, W, e, ww, hxW⟩ := oR x h
                exact ww.ch.key x hxW
              · exact ww.ch.key x (List.mem_of_mem_take h)
            rw [srt_len] at this
            omega
          refine ⟨.inl ⟨rfl, _, SqL.of hR'⟩, D, _, _, rfl, rfl, hR', by rw [List.length_map]; omega, ⟨fun b o e => ?_, R' ++ [x], _, ?_, ?_, fun y => ?_, rfl⟩, ?_, ?_⟩
          · rw [upd_ne (ne_of_none e zD)]
            exact s4 _ _ e
          · rw [List.map_append]
            exact upd_same
          · rw [List.nodup_append]
            refine ⟨nR', by simp, fun a ha b hb z => ?_⟩
            rw [List.mem_singleton.mp hb] at z
            exact hq (z ▸ ha)
          · rw [eW, List.mem_append, iff y, List.mem_append, or_assoc]
          · rw [upd_ne nDp]; exact hp4
          · rw [upd_ne nDD]; exact hW4
      · rintro σ H4 ⟨⟨s4, R', z', hR', nR', iff, rfl⟩, hp4, hW4⟩
        rw [List.length_map, List.take_length] at iff
        refine ⟨⟨s4, R', _, _, hR', nR', fun x hx => ?_, fun q hq => ?_, rfl⟩, hp4⟩
        · rw [eT]
          rcases (iff x).mp hx with h | h
          · exact (oR x h).mono fun _ z => List.mem_append_left _ z
          · exact ⟨n.2, List.mem_append_right _ (List.mem_singleton.mpr rfl), W, e, ww, h⟩
        · rw [eT] at hq
          rcases List.mem_append.mp hq with h | h
          · obtain ⟨V, f, wv, hV⟩ := cR q h
            exact ⟨V, f, wv, fun x hx => (iff x).mpr (.inl (hV x hx))⟩
          · rw [List.mem_singleton.mp h]
            exact ⟨W, e, ww, fun x hx => (iff x).mpr (.inr hx)⟩
    · rintro σ H' ⟨⟨hs, R, y, z, hR, nR, oR, cR, rfl⟩, hp'⟩
      refine hU _ _ ?_
      clear hU
      rw [List.length_map, List.length_map, take_all (by rw [List.length_map])] at oR cR
      have lR : R.length ≤ 63 := by
        have := few (cs := srt ds) nR fun x hx => by
          obtain ⟨q, _, W, e, ww, hxW⟩ := oR x hx
          exact ww.ch.key x hxW
        rw [srt_len] at this
        omega
      walk_at "rd"
      refine ⟨D, R.map Int.ofNat, rfl, SqL.of (by rw [hR, List.map_map]; rfl), by rw [List.length_map]; omega, fun ms q pm _ hq => ?_⟩
      obtain ⟨R', pR, rfl⟩ := permN pm
      rw [List.map_map]
      refine k q R' _ (hs.trans (same_new hq)) upd_same (fun x hx => oR x (pR.mem_iff.mp hx)) fun x hx => ?_
      obtain ⟨W, e, ww, h⟩ := cR x hx
      exact ⟨W, e, ww, fun y hy => pR.mem_iff.mpr (h y hy)⟩
end
end K79

set_option Elab.async false
set_option linter.all false
set_option maxRecDepth 100000
set_option maxHeartbeats 4000000
namespace K79
open PySem PySem.Spec PyProof.Rows L2 Rd Dt Dq Pk Ln En Sx Sy So Sr Lk Rq
local macro_rules | `(tactic| walk_at "rd") => `(tactic| try simp only [↓Lk.tLockE_, ↓Lk.tLock_, ↓Lk.tLc_keys, ↓Lk.tFor_keys, ↓Sy.tTupP_, ↓Sy.rTupP_, ↓Sy.rCatP_, ↓Sy.rSlP_, ↓Sy.rDictT_, ↓Sy.tDGet_, ↓Sy.tDGet1_, ↓Sy.tDIn_, ↓Sy.tDNotIn_, ↓Sy.tMeth_, ↓Sy.tMethKw_, ↓Sy.rSortedS_, ↓Sx.rIsT_, ↓En.tFor_enumT, ↓Sy.tFor_enumL, ↓Rv.tMakeKw_, ↓Prp.tProp_, ↓Lo.tBits_, ↓Lo.tJs_n, ↓Lo.tJs_c, ↓Lo.tFmt_, ↓Lo.gFld_, ↓Lo.tMake_, ↓Lo.rOwn_, ↓Rg.tFor_range3, ↓Rg.tLc_range3, ↓Rg.tLstC_, ↓Rg.tLc_rngV, ↓Le.rNeLE_, ↓Le.rEqLE_, ↓Ls.tLc_str, ↓Ls.sDPut_, ↓Rl.rReprL_, ↓Rl.tCallKS_, ↓Ob.tFld_, ↓Ob.sFld_, ↓tVar_, ↓tC_, ↓tM1, ↓tDNewK_, ↓tOp_, ↓tUn_, ↓rI_, ↓rI0_, ↓rU_, ↓eq_ii, ↓ne_ii, ↓eq_ss, ↓ne_ss, ↓eq_bb, ↓ne_bb, ↓tAndV_, ↓tOrV_, ↓tNotV_, ↓tIf_, ↓tTest_, ↓tB_, ↓tAnd_, ↓tOr_, ↓tNot_, ↓tChain_, ↓tNil_, ↓tCons_, ↓tTup_, ↓tLst_, ↓tCB_, ↓tCall_, ↓tSeq_, ↓tNext_, ↓tRet_, ↓tRetN_, ↓tDrop_, ↓tBreak_, ↓tNever_, ↓tIfS_, ↓tAsg_, ↓gName_, ↓gTup_, ↓gCons_, ↓gNil_, ↓gSub_, ↓tPar_, ↓tPar3_, ↓tSl_, ↓tNoPart_, ↓tPart_, ↓tBM_, ↓tFor_range1, ↓tFor_range2, ↓tFor_list, ↓tFor_tup, L2.start, List.headD_cons, List.headD_nil, List.tail_cons, List.map_cons, List.map_nil, List.length_cons, List.length_nil, List.replicate, List.append_nil, List.nil_append, List.cons_append, List.getElem?_cons_zero, List.getElem?_cons_succ, List.set_cons_zero, List.set_cons_succ, Option.some.injEq, V.int.injEq, V.bl.injEq, V.str.injEq, V.ref.injEq, exists_eq_left, exists_eq_left', exists_eq_right, exists_eq, exists_and_left, and_true, true_and, decide_eq_true_eq, Nat.reduceAdd, Nat.reduceSub, Nat.add_zero, Nat.zero_add, List.cons.injEq, Bool.not_eq_true', decide_eq_false_iff_not, eq_self, reduceCtorEq, Bool.false_eq_true, if_true, if_false, ite_true, ite_false, and_self, ↓tLc_range1, ↓tLc_range2, ↓tLc_list, ↓tLc_tup, ↓tYes_, wipe0, wipe1, ↓tCallS_, ↓rIxL_, ↓rIxT_, ↓rSlL_, ↓rCat_, ↓rSetL_, ↓rRep_, ↓rGcd_, ↓tCallK_, ↓gUnl_, ↓tRaise_, decide_true, decide_false, not_true_eq_false, not_false_eq_true, false_and, or_false, false_or, and_false, and_assoc, exists_const, forall_const, forall_eq'])
section
variable {P : Program} {w : World} {K : PySem.W.Frag} {mg : Str → Option Value} {base : Heap}
/-! ### the law's rings, its crowd -/
def rgP (K : PySem.W.Frag) (H : Hp) (a C D : Addr) (cs : List (Nat × Nat)) (R : List Nat) (i : Nat) : L2.St → Hp → Prop := fun σ H' => Same H H' ∧ H' C = some (.lst (R.map vN)) ∧ ∃ (xs : List V) (rows : List (List Nat)) (y z w : Option V), H' D = some (.lst xs) ∧ Rn.Rws K H' xs rows ∧
  (∀ W ∈ rows, ∃ m, Ring cs m W ∧ m ∉ R ∧ m ∈ (cs.map (·.1)).take i) ∧ (∀ m W, Ring cs m W → m ∉ R → m ∈ (cs.map (·.1)).take i → W ∈ rows) ∧ rows.Pairwise (fun r s => r.headD 0 < s.headD 0) ∧ rows.length ≤ i ∧ σ = [some (.ref a), some (.ref C), some (.ref D), y, z, w]
def spLRg (K : PySem.W.Frag) : Sp := fun vs H Q _ => ∃ (m : Nat) (a dn dc : Addr) (ns ds : List (Nat × Nat)), vs = [.ref a] ∧ LSt m H a dn dc ns ds ∧ m ≤ 10 ∧
  ∀ (D : Addr) (xs : List V) (rows : List (List Nat)) (R : List Nat) H', Same H H' → H' D = some (.lst xs) → Rn.Rws K H' xs rows → (∀ x, x ∈ R ↔ Rch (srt ds) (ns.map (·.2)) x) → (∀ W ∈ rows, ∃ m, Ring (srt ds) m W ∧ m ∉ R) → (∀ m W, Ring (srt ds) m W → m ∉ R → W ∈ rows) →
    rows.Pairwise (fun r s => r.headD 0 < s.headD 0) → rows.length ≤ ds.length → Q (.ref D) H'
theorem sc_lrg : FnScope ["_law_store_here", "_law_come", "_law_found", "_law_at", "_law_cells", "_law_end"] ["_law_store_here"] (defScope (top 44)) := ⟨rfl, rfl, rfl, by decide +kernel, rfl, by decide +kernel, by decide +kernel⟩
theorem ok_lrg {f : Addr} {fd : FuncData} (T : Tx mg) (F : FD K "_law_rings" (top 44) f fd) {f1 f2 : Addr} {fd1 fd2 : FuncData} (C1 : Cal P w K mg base CX0 1 "_law_way" ["_law_store_here", "_law_at"] (spWay K) f1 fd1) (C2 : Cal P w K mg base CX0 2 "_law_reached" ["_law_store_here"] (spLRc K) f2 fd2) : FnOk P w K mg base CX0 3 f fd ["_law_store_here"] (spLRg K) := by
  obtain ⟨g_law_way, k_law_way, b_law_way, F_law_way⟩ := C1
  obtain ⟨g_law_reached, k_law_reached, b_law_reached, F_law_reached⟩ := C2
  refine F.ok sc_lrg (fun vs H Q E h => ?_) (fun cdv A outer s H vs Q E hr h => ?_)
  · obtain ⟨_, _, _, _, _, _, rfl, _⟩ := h
    rfl
  · obtain ⟨m, a, dn, dc, ns, ds, rfl, hls, hm, k⟩ := h
    have nd := sc_lrg.nd
    have zl : (1000000 : Nat) ≤ sizeLine := line_big
    obtain ⟨ha, hdn, hdc, okn, okd⟩ := id hls
    have ln := okn.2.1
    have lds := okd.1
    have asc := srt_asc okd.2.2
    have ndS := asc_nodup asc
    refine ⟨_, (pss_cons (ps_par rfl nd (i := 1) (j := 2) rfl rfl (by decide) rfl rfl (pa_cons (pe_call F_law_reached (hr.mono (by omega)) rfl g_law_reached k_law_reached b_law_reached .nil pass0 (pa_cons (pv 0) pa_nil)) (pa_cons (pe_lst pa_nil) pa_nil)) rfl)
        (pss_cons (ps_for (passes_of rfl) rfl (pi_list (pe_callB (call_sortedDI rfl) (by rfl) T.b_sorted (by decide +kernel) (pa_cons (pe_ix (r := rIxL K) ix_list (pv 0) pe_int (fun _ _ => rfl)) pa_nil))) (pg_name (i := 3) nd rfl (Or.inl rfl)) (pss_cons (ps_asg (pe_call F_law_way (hr.mono (by omega)) rfl g_law_way k_law_way b_law_way .nil pass0 (pa_cons (pv 0) (pa_cons (pv 3) pa_nil))) (pg_tup rfl (pgs_cons (pg_name (i := 4) nd rfl (Or.inl rfl) (hf := Or.inr rfl)) (pgs_cons (pg_name (i := 5) nd rfl (Or.inl rfl) (hf := Or.inr rfl)) pgs_nil))))
        (pss_one (ps_if (PW.pt (pw_and (pt_cmpR op_notIn_seq (pv 3) (pv 1) rfl) (pw_and (pt_cmpR op_eq (pv 5) (pv 3) (nomark _)) (pw_and1 (pt_cmpR op_eq (pe_callB (cr_min rfl) (by rfl) T.b_min (by decide +kernel) (pa_cons (pv 4) pa_nil)) (pv 3) (nomark _)))))) (pss_one (ps_expr (pe_bm PySem.F.plainAttrs_list PySem.F.slot_list_append PySem.F.type_list_append mt_append (pv 2) (pa_cons (pe_callTy (En.call_tupP (K := K) rfl) (by rfl) T.b_tuple (by decide +kernel) (pa_cons (pv 4) pa_nil)) pa_nil)))) pss_nil))))
        (pss_one (ps_ret (pv 2))))), ?_⟩
    refine sq fun U hU => ?_
    walk_at "rd"
    refine ⟨m, a, dn, dc, ns, ds, rfl, hls, hm, fun C R H0 s0 hC0 oR cR => ?_⟩
    have iR := fun x => onway_rch oR cR x
    refine ⟨Nat.zero_le _, fun D hD => hU _ _ ?_⟩
    clear hU oR cR
    have s1 : Same H0 (upd H0 D (.lst [])) := same_new hD
    have f1 : upd H0 D (.lst []) D = some (.lst []) := upd_same
    have hC1 := s1 _ _ hC0
    have zD : H D = none := s0.free hD
    have nCD : C ≠ D := ne_of_none hC0 hD
    generalize upd H0 D (.lst []) = H1 at s1 f1 hC1 ⊢
    have s01 := s0.trans s1
    refine sq fun U hU => ?_
    walk_at "rd"
    refine ⟨_, SqL.of (s01 _ _ ha), _, rfl, dc, rfl, _, .inl (s01 _ _ hdc), _, keys_c ds, by rw [List.length_map]; omega, fun ys p py sy hp => ?_⟩
    rw [srt_keys py sy]
    have s2 : Same H1 (upd H1 p (.lst (((srt ds).map fun d => (d.1 : Int)).map V.int))) := same_new hp
    have f2 : upd H1 p (.lst (((srt ds).map fun d => (d.1 : Int)).map V.int)) p = some (.lst (((srt ds).map fun d => (d.1 : Int)).map V.int)) := upd_same
    have npD : p ≠ D := fun z => by rw [z, f1] at hp; cases hp
    have npC : p ≠ C := fun z => by rw [z, hC1] at hp; cases hp
    have h2D := s2 _ _ f1
    have h2C := s2 _ _ hC1
    generalize upd H1 p (.lst (((srt ds).map fun d => (d.1 : Int)).map V.int)) = H2 at s2 f2 h2D h2C ⊢
    have s02 := s01.trans s2
    refine ⟨⟨_, SqL.of f2⟩, for_l (K := K) (a := p) (xs := ((srt ds).map fun d => (d.1 : Int)).map V.int) (fun i σ H' => rgP K H a C D (srt ds) R i σ H' ∧ H' p = some (.lst (((srt ds).map fun d => (d.1 : Int)).map V.int))) ⟨⟨s02, h2C, [], [], none, none, none, h2D, .nil, fun _ z => (nomatch z), fun _ _ _ _ z => (by simp at z), .nil, Nat.le_refl _, rfl⟩, f2⟩ (fun i σ H' _ h => SqL.of h.2) ?_ ?_⟩
    · rintro i x σ H' hi ⟨⟨hs, hC, xs, rows, y, z, w3, hX, hR, okr, allr, ltr, lr, rfl⟩, hp'⟩
      obtain ⟨x, hx, rfl⟩ := map_at hi
      obtain ⟨d, hd, rfl⟩ := map_at hx
      have md := List.mem_of_getElem? hd
      have eT : ((srt ds).map (·.1)).take (i + 1) = ((srt ds).map (·.1)).take i ++ [d.1] := by
        rw [List.take_succ, List.getElem?_map, hd]
        rfl
      have il : i < ds.length := by
        have := (List.getElem?_eq_some_iff.mp hd).1
        rwa [srt_len] at this
      have kd : (look (srt ds) d.1).isSome = true := by rw [look_mem ndS md]; rfl
      walk_at "rd"
      refine ⟨m, a, dn, dc, ns, ds, d.1, rfl, ⟨hs _ _ ha, hs _ _ hdn, hs _ _ hdc, okn, okd⟩, hm, fun t D2 W e H3 s3 hD2 ht hW ww => ?_⟩
      have hC3 := s3 _ _ hC
      have hX3 := s3 _ _ hX
      have hR3 := hR.up s3
      refine ⟨t, rfl, _, ht, rfl, _, _, rfl, _, _, rfl, rfl, C, R.map vN, rfl, .inl (SqL.of hC3), rfl, flat_N _, ?_⟩
      have skip : (∀ W', Ring (srt ds) d.1 W' → d.1 ∉ R → False) → rgP K H a C D (srt ds) R (i + 1) [some (.ref a), some (.ref C), some (.ref D), some (.int d.1), some (.ref D2), some (.int e)] H3 ∧ H3 p = some (.lst (((srt ds).map fun d => (d.1 : Int)).map V.int)) := fun no => by
        refine ⟨⟨hs.trans s3, hC3, xs, rows, _, _, _, hX3, hR3, fun W hW => ?_, fun m W r n hm => ?_, ltr, by omega, rfl⟩, s3 _ _ hp'⟩
        · obtain ⟨m, r, n, q⟩ := okr W hW
          exact ⟨m, r, n, by rw [eT]; exact List.mem_append_left _ q⟩
        · rw [eT] at hm
          rcases List.mem_append.mp hm with h | h
          · exact allr m W r n h
          · rw [List.mem_singleton.mp h] at r n
            exact (no W r n).elim
      rw [if_pos rfl, inV_N]
      refine ⟨_, rfl, ?_⟩
      by_cases q1 : d.1 ∈ R
      · rw [decide_eq_true q1, if_neg (by decide)]
        exact skip fun _ _ n => n q1
      rw [decide_eq_false q1, if_pos (by decide), eq_ii]
      refine ⟨_, rfl, ?_⟩
      by_cases q2 : (e : Int) = d.1
      case neg =>
        rw [decide_eq_false q2, if_neg (by decide)]
        exact skip fun W' r _ => q2 (by rw [(ww.cyc r.cyc).2])
      rw [decide_eq_true q2, if_pos rfl]
      have ee : e = d.1 := by omega
      subst ee
      have fW := ww.first kd
      refine ⟨D2, W.map Int.ofNat, rfl, SqL.of (by rw [hW, List.map_map]; rfl), by rw [List.length_map]; exact List.length_pos_of_mem fW, fun mn mm ml => ?_⟩
      obtain ⟨mn, mw, rfl⟩ := List.mem_map.mp mm
      have ml : ∀ y ∈ W, mn ≤ y := fun y hy => by
        have := ml _ (List.mem_map.mpr ⟨y, hy, rfl⟩)
        exact Int.ofNat_le.mp this
      rw [show V.int (Int.ofNat mn) = V.int (mn : Int) from rfl, eq_ii]
      refine ⟨_, rfl, ?_⟩
      by_cases q3 : (mn : Int) = d.1
      case neg =>
        rw [decide_eq_false q3, if_neg (by decide)]
        refine skip fun W' r _ => q3 ?_
        have := (ww.cyc r.cyc).1
        rw [← this] at r
        have a1 := r.least mn mw
        have a2 := ml _ fW
        omega
      rw [decide_eq_true q3, if_pos rfl]
      have em : mn = d.1 := by omega
      rw [em] at ml
      have rg : Ring (srt ds) d.1 W := ⟨⟨ww.ch, ww.nd, fun z => by rw [z] at fW; cases fW⟩, ml⟩
      refine ⟨.inl ⟨rfl, _, SqL.of hX3⟩, D2, rfl, _, SqL.of hW, fun l o hl ho => ?_⟩
      have s5 : Same H3 (upd H3 l (.frz o (.tup (W.map vN)))) := same_new hl
      have hX5 := s5 _ _ hX3
      have hC5 := s5 _ _ hC3
      have hR5 := hR3.up s5
      have hl5 : SqT K (upd H3 l (.frz o (.tup (W.map vN)))) l (W.map vN) := (PlT.new ho).sqt
      have hp5 := s5 _ _ (s3 _ _ hp')
      have s05 := (hs.trans s3).trans s5
      generalize upd H3 l (.frz o (.tup (W.map vN))) = H5 at s5 hX5 hC5 hR5 hl5 hp5 s05 ⊢
      have b6 : But D H5 (upd H5 D (.lst (xs ++ [.ref l]))) := fun b o n e => by rw [upd_ne n]; exact e
      have row1 : Rn.Rws K H5 [V.ref l] [W] := .cons hl5 .nil
      refine ⟨D, _, _, rfl, rfl, hX5, by rw [hR.len]; omega, ⟨fun b o e => b6 b o (ne_of_none e zD) (s05 _ _ e), b6 _ _ nCD hC5, xs ++ [.ref l], rows ++ [W], _, _, _, upd_same, Rws.but b6 hX5 lst_no (hR5.append row1), fun V hV => ?_, fun m V r n hm => ?_, ?_, by rw [List.length_append]; exact Nat.succ_le_succ lr, rfl⟩, b6 _ _ npD hp5⟩
      · rw [eT]
        rcases List.mem_append.mp hV with h | h
        · obtain ⟨m, r, n, q⟩ := okr V h
          exact ⟨m, r, n, List.mem_append_left _ q⟩
        · rw [List.mem_singleton.mp h]
          exact ⟨d.1, rg, q1, List.mem_append_right _ (List.mem_singleton.mpr rfl)⟩
      · rw [eT] at hm
        rcases List.mem_append.mp hm with h | h
        · exact List.mem_append_left _ (allr m V r n h)
        · rw [List.mem_singleton.mp h] at r
          exact List.mem_append_right _ (List.mem_singleton.mpr (r.cyc.uniq rg.cyc))
      · rw [List.pairwise_append]
        refine ⟨ltr, by simp, fun V hV V2 hV2 => ?_⟩
        rw [List.mem_singleton.mp hV2, rg.hd]
        obtain ⟨m, r, n, q⟩ := okr V hV
        rw [r.hd]
        obtain ⟨j, hj⟩ := List.mem_iff_getElem?.mp q
        rw [List.getElem?_take] at hj
        split at hj
        · rename_i lj
          have pm := List.pairwise_map.mpr asc
          have hd' : ((srt ds).map (·.1))[i]? = some d.1 := by rw [List.getElem?_map, hd]; rfl
          have := (List.pairwise_iff_getElem.mp pm) j i (List.getElem?_eq_some_iff.mp hj).1 (List.getElem?_eq_some_iff.mp hd').1 lj
          rw [(List.getElem?_eq_some_iff.mp hj).2, (List.getElem?_eq_some_iff.mp hd').2] at this
          exact this
        · cases hj
    · rintro σ H' ⟨⟨hs, hC, xs, rows, y, z, w3, hX, hR, okr, allr, ltr, lr, rfl⟩, hp'⟩
      refine hU _ _ ?_
      clear hU
      walk_at "rd"
      rw [List.length_map, List.length_map] at okr allr lr
      rw [take_all (by rw [List.length_map])] at okr allr
      rw [srt_len] at lr
      refine k D xs rows R _ hs hX hR iR (fun W hW => ?_) (fun m W r n => allr m W r n ?_) ltr lr
      · obtain ⟨m, q, r, _⟩ := okr W hW
        exact ⟨m, q, r⟩
      · obtain ⟨c, hc, e⟩ := look_some.mp r.cyc.key
        exact List.mem_map.mpr ⟨c, hc, e⟩
theorem putK_nk (ns : List (Nat × Nat)) (k v : Nat) : putK (ns.map nk) (.inr (L1 k)) (.int v) = (putN ns k v).map nk := by
  unfold putK putN
  have e1 : (ns.map nk).any (fun p => decide (p.1 = (.inr (L1 k) : Key))) = ns.any (fun d => decide (d.1 = k)) := by
    rw [List.any_map]
    congr 1
    funext d
    show decide ((Sum.inr (L1 d.1) : Key) = .inr (L1 k)) = _
    rw [decide_eq_decide]
    exact ⟨fun z => by injection z with z; exact L1_inj z, fun z => by rw [z]⟩
  rw [e1]
  split
  · rw [List.map_map, List.map_map]
    refine List.map_congr_left fun d _ => ?_
    show (if (Sum.inr (L1 d.1) : Key) = .inr (L1 k) then _ else _) = nk (if d.1 = k then (d.1, v) else d)
    by_cases c : d.1 = k
    · rw [if_pos c, if_pos (by rw [c])]; rfl
    · rw [if_neg c, if_neg (fun z => c (by injection z with z; exact L1_inj z))]
  · rw [List.map_append]; rfl
theorem put_key {ns : List (Nat × Nat)} {k v : Nat} (h : NmOk ns) (hk : k ∈ ns.map (·.1)) (hv : v ≤ 999) : NmOk (putN ns k v) ∧ (putN ns k v).map (·.1) = ns.map (·.1) := by
  have e1 : ns.any (fun d => decide (d.1 = k)) = true := by
    obtain ⟨n, hn, e⟩ := List.mem_map.mp hk
    exact List.any_eq_true.mpr ⟨n, hn, decide_eq_true e⟩
  unfold putN
  rw [if_pos e1]
  have em : (ns.map fun d => if d.1 = k then (d.1, v) else d).map (·.1) = ns.map (·.1) := by
    rw [List.map_map]
    refine List.map_congr_left fun d _ => ?_
    show (if d.1 = k then (d.1, v) else d).1 = d.1
    split <;> rfl
  refine ⟨⟨by rw [List.length_map]; exact h.1, by rw [List.length_map]; exact h.2.1, fun n hn => ?_, ?_⟩, em⟩
  · obtain ⟨d, hd, rfl⟩ := List.mem_map.mp hn
    have := h.2.2.1 d hd
    split
    · exact ⟨this.1, this.2.1, hv⟩
    · exact this
  · have := List.pairwise_map.mpr h.2.2.2
    refine List.pairwise_map.mp (?_ : ((ns.map fun d => if d.1 = k then (d.1, v) else d).map (·.1)).Pairwise (· < ·))
    rw [em]
    exact this
def spCrowd : Sp := fun vs H Q _ => ∃ (u lt : Addr) (ls : List Nat) (m : Nat), vs = [.ref u, .ref lt, .int m] ∧ WellAt H u ∧ H lt = some (.lst (ls.map sL)) ∧ 1 ≤ ls.length ∧ ls.length ≤ 4 ∧ ls.Pairwise (· < ·) ∧ (∀ c ∈ ls, 97 ≤ c ∧ c ≤ 122) ∧ m ≤ 9 ∧
  ∀ (a dn dc : Addr) (ns ds : List (Nat × Nat)) (H' : Hp), But u H H' → WellAt H' u → LSt m H' a dn dc ns ds → a ≠ u → dn ≠ u → dc ≠ u → Q (.ref a) H'
theorem sc_crowd : FnScope ["_law_urn_here", "_law_letters_here", "_law_most", "_law_store_here", "_law_letter"] ["_law_urn_here", "_law_letters_here", "_law_most"] (defScope (top 45)) := ⟨rfl, rfl, rfl, by decide +kernel, rfl, by decide +kernel, by decide +kernel⟩
theorem ok_crowd {f : Addr} {fd : FuncData} (T : Tx mg) (F : FD K "_law_crowd" (top 45) f fd) {f1 f2 : Addr} {fd1 fd2 : FuncData} (C1 : Cal P w K mg base CX0 1 "_law_take" ["_law_urn_here", "_law_size"] spTake f1 fd1)
    (C2 : Cal P w K mg base CX0 4 "_law_store" ["_law_urn_here", "_law_letters_here", "_law_most"] spStore f2 fd2) : FnOk P w K mg base CX0 5 f fd ["_law_urn_here", "_law_letters_here", "_law_most"] spCrowd := by
  obtain ⟨g_law_take, k_law_take, b_law_take, F_law_take⟩ := C1
  obtain ⟨g_law_store, k_law_store, b_law_store, F_law_store⟩ := C2
  refine F.ok sc_crowd (fun vs H Q E h => ?_) (fun cdv A outer s H vs Q E hr h => ?_)
  · obtain ⟨_, _, _, _, rfl, _⟩ := h
    rfl
  · obtain ⟨u, lt, ls, m, rfl, wl, hlt, l1, l4, asc, rng, hm, k⟩ := h
    have nd := sc_crowd.nd
    have zl : (1000000 : Nat) ≤ sizeLine := line_big
    have nlt : lt ≠ u := fun z => by
      obtain ⟨_, _, _, e, _⟩ := wl
      rw [z, e] at hlt
      injection hlt with hlt
      injection hlt with hlt
      cases ls with
      | nil => cases hlt
      | cons x ls => injection hlt with h1 h2; cases h1
    refine ⟨_, (pss_cons (ps_set (i := 3) nd rfl (Or.inl rfl) (pe_call F_law_store (hr.mono (by omega)) rfl g_law_store k_law_store b_law_store .nil pass0 (pa_cons (pv 0) (pa_cons (pv 1) (pa_cons (pv 2) pa_nil)))))
        (pss_cons (ps_for (passes_of rfl) rfl (pi_list (pv 1)) (pg_name (i := 4) nd rfl (Or.inl rfl)) (pss_one (ps_if (pt_cmpR op_eq (pe_call F_law_take (hr.mono (by omega)) rfl g_law_take k_law_take b_law_take .nil pass0 (pa_cons (pv 0) (pa_cons pe_int pa_nil))) pe_int (nomark _)) (pss_one (ps_dput (hu_of hr) (pe_ix (r := rIxL K) ix_list (pv 3) pe_int (fun _ _ => rfl)) (pv 4) pe_int rfl)) pss_nil)))
        (pss_one (ps_ret (pv 3))))), ?_⟩
    refine sq fun U hU => ?_
    walk_at "rd"
    refine ⟨u, lt, ls, m, rfl, wl, hlt, l1, l4, asc, rng, hm, fun a dn dc ns ds H1 b1 w1 st en nau ndu ncu zdn ndc => hU _ _ ?_⟩
    clear hU
    have hl1 := b1 _ _ nlt hlt
    refine sq fun U hU => ?_
    walk_at "rd"
    refine ⟨⟨_, SqL.of hl1⟩, for_l (K := K) (a := lt) (xs := ls.map sL) (fun i σ H' => But u H H' ∧ WellAt H' u ∧ H' lt = some (.lst (ls.map sL)) ∧ ∃ (ns : List (Nat × Nat)) (y : Option V), LSt m H' a dn dc ns ds ∧ ns.map (·.1) = ls ∧ σ = [some (.ref u), some (.ref lt), some (.int m), some (.ref a), y]) ⟨b1, w1, hl1, ns, none, st, en, rfl⟩ (fun i σ H' _ h => SqL.of h.2.2.1) ?_ ?_⟩
    · rintro i x σ H' hi ⟨hb, wl', hl', ns, y, ⟨s1, s2, s3, s4, s5⟩, en, rfl⟩
      obtain ⟨c, hc, rfl⟩ := map_at hi
      walk_at "rd"
      refine ⟨u, 2, rfl, wl', by omega, by omega, fun q H3 b3 w3 e0 e1 => ?_⟩
      show rEq (V.int q) (V.int 0) H3 _
      rw [eq_ii]
      refine ⟨_, rfl, ?_⟩
      have t1 := b3 _ _ nau s1
      have t2 := b3 _ _ ndu s2
      have t3 := b3 _ _ ncu s3
      have hl3 := b3 _ _ nlt hl'
      have hb3 := hb.trans b3
      by_cases q0 : q = 0
      case neg =>
        rw [decide_eq_false q0, if_neg (by decide)]
        exact ⟨hb3, w3, hl3, ns, ⟨t1, t2, t3, s4, s5⟩, en, _, rfl⟩
      rw [decide_eq_true q0, if_pos rfl]
      have mc : c ∈ ns.map (·.1) := by rw [en]; exact List.mem_of_getElem? hc
      obtain ⟨g1, g2⟩ := put_key (v := 0) s4 mc (by omega)
      have l4 := s4.2.1
      have nad : a ≠ dn := fun z => by rw [z, t2] at t1; cases t1
      have nld : lt ≠ dn := fun z => by rw [z, t2] at hl3; cases hl3
      refine ⟨_, SqL.of t1, _, rfl, dn, rfl, _, .k (k := Sum.inr (L1 c)) t2 (by rw [List.length_map]; omega), fun b o n e => ?_, ?_, ?_, putN ns c 0, ⟨?_, ?_, ?_, g1, s5⟩, g2.trans en, _, rfl⟩
      · rw [upd_ne (ne_of_none e zdn)]
        exact hb3 _ _ n e
      · obtain ⟨p1, p2, p3, e, p4⟩ := w3
        exact ⟨p1, p2, p3, by rw [upd_ne (Ne.symm ndu)]; exact e, p4⟩
      · rw [upd_ne nld]; exact hl3
      · rw [upd_ne nad]; exact t1
      · rw [upd_same, ← putK_nk]; rfl
      · rw [upd_ne (Ne.symm ndc)]; exact t3
    · rintro σ H' ⟨hb, wl', hl', ns, y, st', en, rfl⟩
      refine hU _ _ ?_
      clear hU
      walk_at "rd"
      exact k a dn dc ns ds _ hb wl' st' nau ndu ncu
end
end K79

set_option Elab.async false
set_option linter.all false
set_option maxRecDepth 100000
set_option maxHeartbeats 4000000
namespace K79
open PySem PySem.Spec PyProof.Rows L2 Rd Dt Dq Pk Ln En Sx Sy So Sr Lk Rq
local macro_rules | `(tactic| walk_at "rd") => `(tactic| try simp only [↓Lk.tLockE_, ↓Lk.tLock_, ↓Lk.tLc_keys, ↓Lk.tFor_keys, ↓Sy.tTupP_, ↓Sy.rTupP_, ↓Sy.rCatP_, ↓Sy.rSlP_, ↓Sy.rDictT_, ↓Sy.tDGet_, ↓Sy.tDGet1_, ↓Sy.tDIn_, ↓Sy.tDNotIn_, ↓Sy.tMeth_, ↓Sy.tMethKw_, ↓Sy.rSortedS_, ↓Sx.rIsT_, ↓En.tFor_enumT, ↓Sy.tFor_enumL, ↓Rv.tMakeKw_, ↓Prp.tProp_, ↓Lo.tBits_, ↓Lo.tJs_n, ↓Lo.tJs_c, ↓Lo.tFmt_, ↓Lo.gFld_, ↓Lo.tMake_, ↓Lo.rOwn_, ↓Rg.tFor_range3, ↓Rg.tLc_range3, ↓Rg.tLstC_, ↓Rg.tLc_rngV, ↓Le.rNeLE_, ↓Le.rEqLE_, ↓Ls.tLc_str, ↓Ls.sDPut_, ↓Rl.rReprL_, ↓Rl.tCallKS_, ↓Ob.tFld_, ↓Ob.sFld_, ↓tVar_, ↓tC_, ↓tM1, ↓tDNewK_, ↓tOp_, ↓tUn_, ↓rI_, ↓rI0_, ↓rU_, ↓eq_ii, ↓ne_ii, ↓eq_ss, ↓ne_ss, ↓eq_bb, ↓ne_bb, ↓tAndV_, ↓tOrV_, ↓tNotV_, ↓tIf_, ↓tTest_, ↓tB_, ↓tAnd_, ↓tOr_, ↓tNot_, ↓tChain_, ↓tNil_, ↓tCons_, ↓tTup_, ↓tLst_, ↓tCB_, ↓tCall_, ↓tSeq_, ↓tNext_, ↓tRet_, ↓tRetN_, ↓tDrop_, ↓tBreak_, ↓tNever_, ↓tIfS_, ↓tAsg_, ↓gName_, ↓gTup_, ↓gCons_, ↓gNil_, ↓gSub_, ↓tPar_, ↓tPar3_, ↓tSl_, ↓tNoPart_, ↓tPart_, ↓tBM_, ↓tFor_range1, ↓tFor_range2, ↓tFor_list, ↓tFor_tup, L2.start, List.headD_cons, List.headD_nil, List.tail_cons, List.map_cons, List.map_nil, List.length_cons, List.length_nil, List.replicate, List.append_nil, List.nil_append, List.cons_append, List.getElem?_cons_zero, List.getElem?_cons_succ, List.set_cons_zero, List.set_cons_succ, Option.some.injEq, V.int.injEq, V.bl.injEq, V.str.injEq, V.ref.injEq, exists_eq_left, exists_eq_left', exists_eq_right, exists_eq, exists_and_left, and_true, true_and, decide_eq_true_eq, Nat.reduceAdd, Nat.reduceSub, Nat.add_zero, Nat.zero_add, List.cons.injEq, Bool.not_eq_true', decide_eq_false_iff_not, eq_self, reduceCtorEq, Bool.false_eq_true, if_true, if_false, ite_true, ite_false, and_self, ↓tLc_range1, ↓tLc_range2, ↓tLc_list, ↓tLc_tup, ↓tYes_, wipe0, wipe1, ↓tCallS_, ↓rIxL_, ↓rIxT_, ↓rSlL_, ↓rCat_, ↓rSetL_, ↓rRep_, ↓rGcd_, ↓tCallK_, ↓gUnl_, ↓tRaise_, decide_true, decide_false, not_true_eq_false, not_false_eq_true, false_and, or_false, false_or, and_false, and_assoc, exists_const, forall_const, forall_eq'])
section
variable {P : Program} {w : World} {K : PySem.W.Frag} {mg : Str → Option Value} {base : Heap}
abbrev KR (K : PySem.W.Frag) (fd : FuncData) (ps ks : List Str) : Prop := KBn K fd ps 0 ks (fun _ ws => ws.reverse) (fun _ zs => zs.reverse)
def spG : Sp := fun vs H Q _ => ∃ (u : Addr), vs = [.ref u] ∧ WellAt H u ∧ ∀ H', But u H H' → WellAt H' u → Q (.bl true) H'
theorem LSt.but {m : Nat} {H H' : Hp} {a dn dc u : Addr} {ns ds : List (Nat × Nat)} (h : LSt m H a dn dc ns ds) (b : But u H H') (n1 : a ≠ u) (n2 : dn ≠ u) (n3 : dc ≠ u) : LSt m H' a dn dc ns ds := ⟨b _ _ n1 h.1, b _ _ n2 h.2.1, b _ _ n3 h.2.2.1, h.2.2.2⟩
theorem LSt.up {m : Nat} {H H' : Hp} {a dn dc : Addr} {ns ds : List (Nat × Nat)} (h : LSt m H a dn dc ns ds) (b : Same H H') : LSt m H' a dn dc ns ds := ⟨b _ _ h.1, b _ _ h.2.1, b _ _ h.2.2.1, h.2.2.2⟩
theorem wl_put {H : Hp} {u x : Addr} {o : HO} (h : WellAt H u) (n : x ≠ u) : WellAt (upd H x o) u := by
  obtain ⟨q1, q2, q3, e, q4⟩ := h
  exact ⟨q1, q2, q3, by rw [upd_ne (Ne.symm n)]; exact e, q4⟩
theorem dp_ns {H : Hp} : ∀ xs : List Nat, DpAll K H (xs.map vN) (xs.map fun n : Nat => PyData.int n)
  | [] => .nil
  | x :: xs => .cons (.int _) (dp_ns xs)
theorem count_N (x : Nat) : ∀ l : List Nat, (l.map Int.ofNat).count (x : Int) = l.count x
  | [] => rfl
  | y :: l => by
    rw [List.map_cons, List.count_cons, List.count_cons, count_N x l]
    congr 1
    have e : ((Int.ofNat y == (x : Int)) = true) ↔ ((y == x) = true) := by
      rw [beq_iff_eq, beq_iff_eq]
      exact Int.ofNat_inj
    by_cases q : y = x
    · rw [if_pos (beq_iff_eq.mpr q), if_pos (e.mpr (beq_iff_eq.mpr q))]
    · rw [if_neg (fun z => q (beq_iff_eq.mp z)), if_neg (fun z => q (beq_iff_eq.mp (e.mp z)))]
theorem dp_rows {H : Hp} : ∀ {xs : List V} {rs : List (List Nat)}, Rn.Rws K H xs rs → DpAll K H xs (rs.map fun r => PyData.tuple (r.map fun n : Nat => PyData.int n))
  | _, _, .nil => .nil
  | _, _, .cons h t => .cons (.tup h (dp_ns _)) (dp_rows t)
theorem fit_tup {xs : List Nat} (h : ∀ x ∈ xs, x ≤ 999) (l : xs.length ≤ 10) : Fit (.tuple (xs.map fun n : Nat => PyData.int n)) 1 143 := by
  have := Fit.tuple (ds := xs.map fun n : Nat => PyData.int n) (k := 0) (n := 12) fun d hd => by
    obtain ⟨n, hn, rfl⟩ := List.mem_map.mp hd
    exact fit_nat (by have := h n hn; omega)
  rw [List.length_map] at this
  exact this.mono (Nat.le_refl _) (by omega)
theorem fit_rows {rs : List (List Nat)} (h : ∀ r ∈ rs, r.length ≤ 10 ∧ ∀ x ∈ r, x ≤ 999) (l : rs.length ≤ 10) : Fit (.tuple (rs.map fun r => PyData.tuple (r.map fun n : Nat => PyData.int n))) 2 1453 := by
  have := Fit.tuple (ds := rs.map fun r => PyData.tuple (r.map fun n : Nat => PyData.int n)) (k := 1) (n := 143) fun d hd => by
    obtain ⟨r, hr, rfl⟩ := List.mem_map.mp hd
    exact fit_tup (h r hr).2 (h r hr).1
  rw [List.length_map] at this
  exact this.mono (Nat.le_refl _) (by omega)
theorem fit_two {d : PyData} {k n : Nat} (h : Fit d k n) : Fit (.list [d, d]) (k + 1) (2 * (n + 2) + 3) := Fit.list (ds := [d, d]) fun e he => by
  simp only [List.mem_cons, List.not_mem_nil, or_false, or_self] at he
  rw [he]
  exact h
theorem sc_right : FnScope ["_law_urn_here", "_law_store_here", "_law_at", "_law_mine", "_law_goals", "_law_shown", "_law_due", "_law_each"] ["_law_urn_here"] (defScope (top 46)) := ⟨rfl, rfl, rfl, by decide +kernel, rfl, by decide +kernel, by decide +kernel⟩
theorem ok_right {f C fi : Addr} {fd : FuncData} (T : Tx mg) (hS : SysD K) (W : StB K C) (L : StM K mg C fi) {p3 g3 : Addr} {fp3 : FuncData} (PT : Prp.PrC P w K mg base 1 C "text" (spText K C) p3 g3 fp3) (F : FD K "_law_right" (top 46) f fd)
    {f0 f1 f2 f3 f4 f5 f6 f7 f8 : Addr} {fd0 fd1 fd2 fd3 fd4 fd5 fd6 fd7 fd8 : FuncData}
    (C0 : Cal P w K mg base CX0 1 "_law_take" ["_law_urn_here", "_law_size"] spTake f0 fd0) (C1 : Cal P w K mg base CX0 3 "_law_letters" ["_law_urn_here", "_law_many"] spLets f1 fd1) (C2 : Cal P w K mg base CX0 5 "_law_crowd" ["_law_urn_here", "_law_letters_here", "_law_most"] spCrowd f2 fd2)
    (C3 : Cal P w K mg base CX0 7 "_law_made" ["_law_store_here"] (spMade K C) f3 fd3) (C4 : Cal P w K mg base CX0 4 "arrows_into" ["store", "place"] (spInto K C) f4 fd4) (warrows_into : KR K fd4 ["store", "place"] ["place", "store"])
    (C5 : Cal P w K mg base CX0 2 "unasked" ["store"] (spUn K C) f5 fd5) (wunasked : KW K fd5 ["store"]) (C6 : Cal P w K mg base CX0 2 "lost_rings" ["store"] (spLR K C) f6 fd6) (wlost_rings : KW K fd6 ["store"])
    (C7 : Cal P w K mg base CX0 3 "_law_rings" ["_law_store_here"] (spLRg K) f7 fd7) (C8 : Cal P w K mg base CX0 1 "_law_text" ["_law_store_here"] spTxt f8 fd8) : Ga.FnG P w K mg base CX0 10 f fd ["_law_urn_here"] spG := by
  obtain ⟨g_law_take, k_law_take, b_law_take, F_law_take⟩ := C0
  obtain ⟨g_law_letters, k_law_letters, b_law_letters, F_law_letters⟩ := C1
  obtain ⟨g_law_crowd, k_law_crowd, b_law_crowd, F_law_crowd⟩ := C2
  obtain ⟨g_law_made, k_law_made, b_law_made, F_law_made⟩ := C3
  obtain ⟨garrows_into, karrows_into, barrows_into, Farrows_into⟩ := C4
  obtain ⟨gunasked, kunasked, bunasked, Funasked⟩ := C5
  obtain ⟨glost_rings, klost_rings, blost_rings, Flost_rings⟩ := C6
  obtain ⟨g_law_rings, k_law_rings, b_law_rings, F_law_rings⟩ := C7
  obtain ⟨g_law_text, k_law_text, b_law_text, F_law_text⟩ := C8
  refine Ga.FnG.mk' F sc_right (fun vs H Q E h => ?_) (fun cdv A outer s' H vs Q E hG hr h => ?_)
  · obtain ⟨_, rfl, _⟩ := h
    rfl
  · obtain ⟨u, rfl, hw, k⟩ := h
    have nd := sc_right.nd
    have zl : (1000000 : Nat) ≤ sizeLine := line_big
    have wne : ∀ N (H' : Hp), WellAt H' u → H' N = none → N ≠ u := fun N H' w' hn z => by
      obtain ⟨_, _, _, e, _⟩ := w'
      rw [z, e] at hn
      cases hn
    refine ⟨_, (pss_cons (ps_set (i := 1) nd rfl (Or.inr rfl) (pe_call F_law_crowd (hr.mono (by omega)) rfl g_law_crowd k_law_crowd b_law_crowd .nil pass0 (pa_cons (pv 0) (pa_cons (pe_call F_law_letters (hr.mono (by omega)) rfl g_law_letters k_law_letters b_law_letters .nil pass0 (pa_cons (pv 0) (pa_cons (pe_op op_add pe_int (pe_call F_law_take (hr.mono (by omega)) rfl g_law_take k_law_take b_law_take .nil pass0 (pa_cons (pv 0) (pa_cons pe_int pa_nil)))) pa_nil))) (pa_cons pe_int pa_nil)))))
        (pss_cons (ps_asg (pe_tup (pa_cons (pe_call F_law_made (hr.mono (by omega)) rfl g_law_made k_law_made b_law_made .nil pass0 (pa_cons (pv 1) pa_nil)) (pa_cons (pe_lock (pe_lc (own := [("_law_at", 2)]) rfl nd (pi_keys (pe_ix (r := rIxL K) ix_list (pv 1) pe_int (fun _ _ => rfl))) (blkOk_by (N := ["_law_urn_here", "_law_store_here", "_law_at", "_law_mine", "_law_goals", "_law_shown", "_law_due", "_law_each"]) (sc := defScope (top 46)) (by decide +kernel)) (fun _ _ _ _ _ => (pg_name (i := 2) nd rfl (Or.inl rfl))) (fun _ _ _ _ _ => pts_nil) (fun _ _ _ _ _ => (pe_dget (hu_of hr) (pe_ix (r := rIxL K) ix_list (pv 1) pe_int (fun _ _ => rfl)) (pv 2) (fun _ _ => rfl))))) pa_nil))) (pg_tup rfl (pgs_cons (pg_name (i := 3) nd rfl (Or.inl rfl) (hf := Or.inr rfl)) (pgs_cons (pg_name (i := 4) nd rfl (Or.inr rfl) (hf := Or.inl rfl)) pgs_nil))))
        (pss_cons (ps_for (passes_of rfl) rfl (pi_list (pe_op op_cat (pe_op op_cat (pe_lst (pa_cons pe_int (pa_cons pe_int (pa_cons pe_int (pa_cons (pe_call F_law_take (hr.mono (by omega)) rfl g_law_take k_law_take b_law_take .nil pass0 (pa_cons (pv 0) (pa_cons pe_int pa_nil))) pa_nil))))) (pe_callTy (call_listD rfl) (by rfl) T.b_list (by decide +kernel) (pa_cons (pe_ix (r := rIxL K) ix_list (pv 1) pe_int (fun _ _ => rfl)) pa_nil))) (pv 4))) (pg_name (i := 2) nd rfl (Or.inl rfl)) (pss_one (ps_if (pt_cmpR op_ne (pe_callB (Ga.call_repr hG hr) (by rfl) T.b_repr (by decide +kernel) (pa_cons (pe_lst (pa_cons (pe_call Farrows_into (hr.mono (by omega)) rfl garrows_into karrows_into barrows_into .nil pass0 (pa_cons (pv 3) (pa_cons (pv 2) pa_nil))) (pa_cons (pe_callKw Farrows_into (hr.mono (by omega)) rfl garrows_into karrows_into warrows_into pass0 (pk_cons (pv 2) (pk_cons (pv 3) pk_nil))) pa_nil))) pa_nil)) (pe_callB (Ga.call_repr hG hr) (by rfl) T.b_repr (by decide +kernel) (pa_cons (pe_op op_rep (pe_lst (pa_cons (pe_bm PySem.F.plainAttrs_list PySem.F.slot_list_count PySem.F.type_list_count mt_lcount (pv 4) (pa_cons (pv 2) pa_nil)) pa_nil)) pe_int) pa_nil)) (nomark _)) (pss_one (ps_ret pe_bl)) pss_nil)))
        (pss_cons (ps_set (i := 5) nd rfl (Or.inr rfl) (pe_lock (pe_lc (own := [("_law_each", 7)]) rfl nd (pi_keys (pe_ix (r := rIxL K) ix_list (pv 1) pe_int (fun _ _ => rfl))) (blkOk_by (N := ["_law_urn_here", "_law_store_here", "_law_at", "_law_mine", "_law_goals", "_law_shown", "_law_due", "_law_each"]) (sc := defScope (top 46)) (by decide +kernel)) (fun _ _ _ _ _ => (pg_name (i := 7) nd rfl (Or.inl rfl))) (fun _ _ _ _ _ => pts_nil) (fun _ _ _ _ _ => (pe_dget (hu_of hr) (pe_ix (r := rIxL K) ix_list (pv 1) pe_int (fun _ _ => rfl)) (pv 7) (fun _ _ => rfl))))))
        (pss_cons (ps_set (i := 6) nd rfl (Or.inl rfl) (pe_callTy (En.call_tupP (K := K) rfl) (by rfl) T.b_tuple (by decide +kernel) (pa_cons (pe_lc (own := [("_law_at", 2)]) rfl nd (pi_list (pe_callB (call_sortedDI rfl) (by rfl) T.b_sorted (by decide +kernel) (pa_cons (pe_ix (r := rIxL K) ix_list (pv 1) pe_int (fun _ _ => rfl)) pa_nil))) (blkOk_by (N := ["_law_urn_here", "_law_store_here", "_law_at", "_law_mine", "_law_goals", "_law_shown", "_law_due", "_law_each"]) (sc := defScope (top 46)) (by decide +kernel)) (fun _ _ _ _ _ => (pg_name (i := 2) nd rfl (Or.inl rfl))) (fun _ _ _ _ _ => (pts_one (PW.pt (pw_and (pt_cmpR (Sy.op_notIn_seqK (K := K) rfl) (pv 2) (pv 4) rfl) (pw_and1 (pt_cmpR (Sy.op_notIn_seqK (K := K) rfl) (pv 2) (pv 5) rfl)))))) (fun _ _ _ _ _ => (pv 2))) pa_nil)))
        (pss_cons (ps_if (pt_cmpR op_ne (pe_callB (Ga.call_repr hG hr) (by rfl) T.b_repr (by decide +kernel) (pa_cons (pe_lst (pa_cons (pe_call Funasked (hr.mono (by omega)) rfl gunasked kunasked bunasked .nil pass0 (pa_cons (pv 3) pa_nil)) (pa_cons (pe_callKw Funasked (hr.mono (by omega)) rfl gunasked kunasked wunasked pass0 (pk_cons (pv 3) pk_nil)) pa_nil))) pa_nil)) (pe_callB (Ga.call_repr hG hr) (by rfl) T.b_repr (by decide +kernel) (pa_cons (pe_lst (pa_cons (pv 6) (pa_cons (pv 6) pa_nil))) pa_nil)) (nomark _)) (pss_one (ps_ret pe_bl)) pss_nil)
        (pss_cons (ps_set (i := 6) nd rfl (Or.inl rfl) (pe_callTy (En.call_tupP (K := K) rfl) (by rfl) T.b_tuple (by decide +kernel) (pa_cons (pe_call F_law_rings (hr.mono (by omega)) rfl g_law_rings k_law_rings b_law_rings .nil pass0 (pa_cons (pv 1) pa_nil)) pa_nil)))
        (pss_one (ps_ret (pe_and (pe_cmpR op_eq (pe_callB (Ga.call_repr hG hr) (by rfl) T.b_repr (by decide +kernel) (pa_cons (pe_lst (pa_cons (pe_call Flost_rings (hr.mono (by omega)) rfl glost_rings klost_rings blost_rings .nil pass0 (pa_cons (pv 3) pa_nil)) (pa_cons (pe_callKw Flost_rings (hr.mono (by omega)) rfl glost_rings klost_rings wlost_rings pass0 (pk_cons (pv 3) pk_nil)) pa_nil))) pa_nil)) (pe_callB (Ga.call_repr hG hr) (by rfl) T.b_repr (by decide +kernel) (pa_cons (pe_lst (pa_cons (pv 6) (pa_cons (pv 6) pa_nil))) pa_nil)) (nomark _)) (pe_one (pe_cmpR op_eq (Prp.pe_propK rfl rfl rfl rfl rfl (pv 3) W.cl PT (hr.mono (by omega)) pass0 rfl) (pe_call F_law_text (hr.mono (by omega)) rfl g_law_text k_law_text b_law_text .nil pass0 (pa_cons (pv 1) pa_nil)) (nomark _))))))))))))), ?_⟩
    refine sq fun U hU => ?_
    walk_at "rd"
    refine ⟨u, 4, rfl, hw, by decide, by decide, fun d H1 b1 w1 d0 d1 => ?_⟩
    refine ⟨d, rfl, u, (1 + d).toNat, by rw [Int.toNat_of_nonneg (by omega)], w1, by omega, fun p ls H2 b2 w2 hp hp0 ll la lr => ?_⟩
    refine ⟨u, p, ls, 9, rfl, w2, hp, by omega, by omega, la, lr, by decide, fun a dn dc ns ds H3 b3 w3 hls nau nnu ncu => hU _ _ ?_⟩
    clear hU
    have B3 := (b1.trans b2).trans b3
    refine sq fun U hU => ?_
    walk_at "rd"
    have okn := hls.2.2.2.1
    have okd := hls.2.2.2.2
    have ln := okn.2.1
    have lds := okd.1
    refine ⟨9, a, dn, dc, ns, ds, rfl, hls, by decide, fun r H4 s4 hst4 => ?_⟩
    have hls4 := hls.up s4
    have w4 := w3.but s4
    have B4 := B3.trans (But.same s4)
    clear b1 b2 b3 w1 w2 B3 hls w3 s4 hp hp0
    obtain ⟨a4, n4, c4, _, _⟩ := id hls4
    have nac : a ≠ dc := fun z => by rw [z, c4] at a4; cases a4
    refine ⟨dc, _, c4, trivial, fun od => ⟨_, SqL.of (lock_ne nac a4), _, rfl, dc, rfl, od, .inl ⟨_, upd_same, ?_⟩⟩⟩
    have fz : upd H4 dc (.frz od (.dK (ds.map ck))) dc = some (.frz od (.dK (ds.map ck))) := upd_same
    have az := lock_ne (od := od) (u := .dK (ds.map ck)) nac a4
    refine lc_k (kvs := ds.map ck) (nuP (upd H4 dc (.frz od (.dK (ds.map ck)))) (ds.map (·.2))) fun G hG => ⟨⟨same_new hG, upd_same⟩, fun j H6 _ hP => hP.1 _ _ fz, ?_, ?_⟩
    · rintro j kv H6 hkv hP
      obtain ⟨n, hn, rfl⟩ := map_at hkv
      have := dget_f (k := Sum.inl (n.1 : Int)) (hP.1 _ _ fz)
      rw [val_c, if_pos (by omega), Int.toNat_natCast, look_mem okd.2.2 (List.mem_of_getElem? hn)] at this
      unfold Lturn
      walk_at "rd"
      exact ⟨_, SqL.of (hP.1 _ _ az), _, rfl, dc, rfl, _, this, nuP_step (by rw [List.length_map]; omega) hP hG (by rw [List.getElem?_map, hn]; rfl)⟩
    rintro H5 ⟨s5, hG5⟩
    rw [List.length_map, List.take_of_length_le (by rw [List.length_map]; exact Nat.le_refl _)] at hG5
    have nGu : G ≠ u := wne G _ (wl_put w4 ncu) hG
    have nGc : G ≠ dc := fun z => by rw [z, fz] at hG; cases hG
    refine ⟨s5 _ _ fz, by omega, fun q hq => ⟨_, SqT.of upd_same, rfl, _, _, rfl, _, _, rfl, rfl, hU _ _ ?_⟩⟩
    clear hU
    have s46 := (unlock_same c4 s5).trans (same_new (o := .tup [.ref r, .ref G]) hq)
    have hG6 : upd (upd H5 dc (.dK (ds.map ck))) q (.tup [.ref r, .ref G]) G = some (.lst ((ds.map (·.2)).map vN)) := same_new hq _ _ (by rw [upd_ne nGc]; exact hG5)
    generalize upd (upd H5 dc (.dK (ds.map ck))) q (.tup [.ref r, .ref G]) = H6 at s46 hG6 ⊢
    have hls6 := hls4.up s46
    have hst6 := hst4.up s46
    have w6 := w4.but s46
    have B6 := B4.trans (But.same s46)
    clear s46 hq nGc s5 hG5 fz az hG w4 hst4 hls4 B4 a4 n4 c4
    obtain ⟨a6, n6, c6, _, _⟩ := id hls6
    refine sq fun U hU => ?_
    walk_at "rd"
    refine ⟨u, 1000, rfl, w6, by decide, by decide, fun tk H7 b7 w7 t0 t1 => ⟨by omega, fun p1 hp1 => ?_⟩⟩
    obtain ⟨tn, rfl⟩ : ∃ n : Nat, tk = n := ⟨tk.toNat, by omega⟩
    have a7 := b7 _ _ nau a6
    have c7 := b7 _ _ ncu c6
    have G7 := b7 _ _ nGu hG6
    have l1 : upd H7 p1 (.lst [.int 0, .int 1, .int 999, .int tn]) p1 = some (.lst ([0, 1, 999, tn].map vN)) := upd_same
    have z1 : Same H7 (upd H7 p1 (.lst [.int 0, .int 1, .int 999, .int tn])) := same_new hp1
    generalize upd H7 p1 (.lst [.int 0, .int 1, .int 999, .int tn]) = J1 at l1 z1 ⊢
    have ek : (ds.map ck).map (fun kv => kV kv.1) = (ds.map (·.1)).map vN := by rw [List.map_map, List.map_map]; rfl
    refine ⟨_, SqL.of (z1 _ _ a7), _, rfl, dc, rfl, _, .inl (z1 _ _ c7), fun p2 hp2 => ?_⟩
    rw [ek]
    have z2 : Same J1 (upd J1 p2 (.lst ((ds.map (·.1)).map vN))) := same_new hp2
    have l2 : upd J1 p2 (.lst ((ds.map (·.1)).map vN)) p2 = some (.lst ((ds.map (·.1)).map vN)) := upd_same
    have l12 := z2 _ _ l1
    generalize upd J1 p2 (.lst ((ds.map (·.1)).map vN)) = J2 at l2 z2 l12 ⊢
    refine ⟨_, l12, _, l2, by simp only [List.length_map, List.length_cons, List.length_nil]; omega, fun p3 hp3 => ?_⟩
    rw [← List.map_append]
    have z3 : Same J2 (upd J2 p3 (.lst (([0, 1, 999, tn] ++ ds.map (·.1)).map vN))) := same_new hp3
    have l3 : upd J2 p3 (.lst (([0, 1, 999, tn] ++ ds.map (·.1)).map vN)) p3 = some (.lst (([0, 1, 999, tn] ++ ds.map (·.1)).map vN)) := upd_same
    have z03 := z1.trans (z2.trans z3)
    generalize upd J2 p3 (.lst (([0, 1, 999, tn] ++ ds.map (·.1)).map vN)) = J3 at l3 z3 z03 ⊢
    refine ⟨_, l3, _, z03 _ _ G7, by simp only [List.length_map, List.length_append, List.length_cons, List.length_nil]; omega, fun p4 hp4 => ?_⟩
    rw [← List.map_append]
    have rW : ∀ x ∈ [0, 1, 999, tn] ++ ds.map (·.1) ++ ds.map (·.2), x ≤ 999 := fun x hx => by
      simp only [List.mem_append, List.mem_cons, List.not_mem_nil, or_false, List.mem_map] at hx
      rcases hx with ((rfl | rfl | rfl | rfl) | ⟨c, hc, rfl⟩) | ⟨c, hc, rfl⟩
      · omega
      · omega
      · omega
      · omega
      · exact (okd.2.1 c hc).2.1
      · exact (okd.2.1 c hc).2.2
    generalize [0, 1, 999, tn] ++ ds.map (·.1) ++ ds.map (·.2) = Ws at rW hp4 ⊢
    have z4 := z03.trans (same_new (o := .lst (Ws.map vN)) hp4)
    have l4 : upd J3 p4 (.lst (Ws.map vN)) p4 = some (.lst (Ws.map vN)) := upd_same
    generalize upd J3 p4 (.lst (Ws.map vN)) = H8 at l4 z4 ⊢
    have b68 := b7.trans (But.same z4)
    have hls8 := hls6.but b68 nau nnu ncu
    have hst8 := (hst6.but b7 w6).up z4
    have hG8 := z4 _ _ G7
    have w8 := w7.but z4
    have B8 := B6.trans b68
    clear b68 z4 z03 l3 z3 l12 l2 z2 l1 z1 G7 c7 a7 b7 w7 B6 w6 hst6 hls6 a6 n6 c6 hG6 hp1 hp2 hp3 hp4
    refine ⟨⟨_, SqL.of l4⟩, for_l (K := K) (a := p4) (xs := Ws.map vN) (fun i σ H' => Same H8 H' ∧ ∃ y : Option V, σ = [some (.ref u), some (.ref a), y, some (.ref r), some (.ref G), none, none, none]) ⟨Same.refl _, _, rfl⟩ (fun i σ H' _ h => SqL.of (h.1 _ _ l4)) ?_ ?_⟩
    · rintro i x σ H' hi ⟨hs, y, rfl⟩
      obtain ⟨x, hx, rfl⟩ := map_at hi
      have x9 := rW x (List.mem_of_getElem? hx)
      walk_at "rd"
      have ec : (((srt ds).map (·.2)).count x) = (ds.map (·.2)).count x := ((srt_perm ds).map (·.2)).count_eq x
      refine ⟨r, ns, srt ds, x, rfl, hst8.up hs, x9, fun G1 g1 => ⟨r, ns, srt ds, x, rfl, (hst8.up hs).up g1, x9, fun G2 g2 => ⟨by omega, fun p5 hp5 => ?_⟩⟩⟩
      rw [ec]
      have lc : (ds.map (·.2)).count x ≤ 999 := by
        have : (ds.map (·.2)).count x ≤ (ds.map (·.2)).length := List.count_le_length
        rw [List.length_map] at this
        omega
      have q5 := hs.trans (g1.trans (g2.trans (same_new (o := .lst [.int ((ds.map (·.2)).count x : Nat), .int ((ds.map (·.2)).count x : Nat)]) hp5)))
      refine rRepr_fit (fit_two (fit_nat (n := (ds.map (·.2)).count x) (by omega))) (by decide) (by decide) (.lst (SqL.of upd_same) (.cons (.int _) (.cons (.int _) .nil))) ?_
      generalize upd G2 p5 (.lst [.int ((ds.map (·.2)).count x : Nat), .int ((ds.map (·.2)).count x : Nat)]) = G3 at q5 ⊢
      refine ⟨.inl ⟨rfl, _, SqL.of (q5 _ _ hG8)⟩, G, (ds.map (·.2)).map Int.ofNat, x, rfl, rfl, SqL.of (by rw [q5 _ _ hG8]; simp only [List.map_map]; rfl), by omega, fun p6 hp6 => ?_⟩
      rw [count_N]
      refine ⟨_, upd_same, by decide, by decide, by simp only [List.length_cons, List.length_nil]; omega, fun p7 hp7 => ?_⟩
      have q7 := q5.trans ((same_new (o := .lst [.int ((ds.map (·.2)).count x : Nat)]) hp6).trans (same_new (o := .lst [.int ((ds.map (·.2)).count x : Nat), .int ((ds.map (·.2)).count x : Nat)]) hp7))
      refine rRepr_fit (fit_two (fit_nat (n := (ds.map (·.2)).count x) (by omega))) (by decide) (by decide) (.lst (SqL.of upd_same) (.cons (.int _) (.cons (.int _) .nil))) ?_
      walk_at "rd"
      exact ⟨q7, _, rfl⟩
    rintro σ H9 ⟨s9, y, rfl⟩
    refine hU _ _ ?_
    clear hU
    have hls9 := hls8.up s9
    have hst9 := hst8.up s9
    have hG9 := s9 _ _ hG8
    have w9 := w8.but s9
    have B9 := B8.trans (But.same s9)
    clear s9 hls8 hst8 hG8 w8 B8 l4
    obtain ⟨a9, n9, c9, _, _⟩ := id hls9
    refine sq fun U hU => ?_
    walk_at "rd"
    have nan : a ≠ dn := fun z => by rw [z, n9] at a9; cases a9
    refine ⟨dn, _, n9, trivial, fun od => ⟨_, SqL.of (lock_ne nan a9), _, rfl, dn, rfl, od, .inl ⟨_, upd_same, ?_⟩⟩⟩
    have fz : upd H9 dn (.frz od (.dK (ns.map nk))) dn = some (.frz od (.dK (ns.map nk))) := upd_same
    have az := lock_ne (od := od) (u := .dK (ns.map nk)) nan a9
    refine lc_k (kvs := ns.map nk) (nuP (upd H9 dn (.frz od (.dK (ns.map nk)))) (ns.map (·.2))) fun S hS0 => ⟨⟨same_new hS0, upd_same⟩, fun j H6 _ hP => hP.1 _ _ fz, ?_, ?_⟩
    · rintro j kv H6 hkv hP
      obtain ⟨n, hn, rfl⟩ := map_at hkv
      have := dget_f (k := Sum.inr (L1 n.1)) (hP.1 _ _ fz)
      rw [val_n, look_mem (asc_nodup okn.2.2.2) (List.mem_of_getElem? hn)] at this
      unfold Lturn
      walk_at "rd"
      exact ⟨_, SqL.of (hP.1 _ _ az), _, rfl, dn, rfl, _, this, nuP_step (by rw [List.length_map]; omega) hP hS0 (by rw [List.getElem?_map, hn]; rfl)⟩
    rintro H10 ⟨s10, hS10⟩
    rw [List.length_map, List.take_of_length_le (by rw [List.length_map]; exact Nat.le_refl _)] at hS10
    have nSd : S ≠ dn := fun z => by rw [z, fz] at hS0; cases hS0
    refine ⟨s10 _ _ fz, hU _ _ ?_⟩
    clear hU
    have s911 := unlock_same n9 s10
    have hS11 : upd H10 dn (.dK (ns.map nk)) S = some (.lst ((ns.map (·.2)).map vN)) := by rw [upd_ne nSd]; exact hS10
    generalize upd H10 dn (.dK (ns.map nk)) = H11 at s911 hS11 ⊢
    have hls11 := hls9.up s911
    have hst11 := hst9.up s911
    have hG11 := s911 _ _ hG9
    have w11 := w9.but s911
    have B11 := B9.trans (But.same s911)
    clear s911 nSd s10 hS10 fz az hS0 nan a9 n9 c9 hls9 hst9 hG9 w9 B9
    obtain ⟨a11, n11, c11, _, _⟩ := id hls11
    have asc := srt_asc okd.2.2
    have lsr := srt_len ds
    refine sq fun U hU => ?_
    walk_at "rd"
    refine ⟨_, SqL.of a11, _, rfl, dc, rfl, _, .inl c11, _, keys_c ds, by rw [List.length_map]; omega, fun ys p py sy hp => ?_⟩
    rw [srt_keys py sy]
    have s12 : Same H11 (upd H11 p (.lst (((srt ds).map fun d => (d.1 : Int)).map V.int))) := same_new hp
    have f12 : upd H11 p (.lst (((srt ds).map fun d => (d.1 : Int)).map V.int)) p = some (.lst (((srt ds).map fun d => (d.1 : Int)).map V.int)) := upd_same
    generalize upd H11 p (.lst (((srt ds).map fun d => (d.1 : Int)).map V.int)) = H12 at s12 f12 ⊢
    have hG12 := s12 _ _ hG11
    have hS12 := s12 _ _ hS11
    refine ⟨⟨_, SqL.of f12⟩, lc_l (xs := ((srt ds).map fun d => (d.1 : Int)).map V.int) (chN H12 (fun c => !decide (c.1 ∈ ns.map (·.2) ++ (srt ds).map (·.2))) (fun c => c.1) (srt ds)) fun D hD => ⟨chN_0 hD, fun j H6 _ hP => SqL.of (hP.1 _ _ f12), ?_, ?_⟩⟩
    · rintro j y H6 hy hP
      obtain ⟨x, hx, rfl⟩ := map_at hy
      obtain ⟨c, hc, rfl⟩ := map_at hx
      have step := chN_step (by omega) hP hD hc
      unfold Lturn
      walk_at "rd"
      have gm : c.1 ∈ (srt ds).map (·.2) ↔ c.1 ∈ ds.map (·.2) := ((srt_perm ds).map (·.2)).mem_iff
      refine ⟨G, (ds.map (·.2)).map vN, rfl, .inl (SqL.of (hP.1 _ _ hG12)), rfl, flat_N _, ?_⟩
      rw [if_pos rfl, inV_N]
      refine ⟨_, rfl, ?_⟩
      by_cases q1 : c.1 ∈ ds.map (·.2)
      · rw [decide_eq_true q1, if_neg (by decide)]
        rwa [if_neg (by rw [decide_eq_true (List.mem_append_right _ (gm.mpr q1))]; decide)] at step
      rw [decide_eq_false q1, if_pos (by decide)]
      refine ⟨S, (ns.map (·.2)).map vN, rfl, .inl (SqL.of (hP.1 _ _ hS12)), rfl, flat_N _, ?_⟩
      rw [if_pos rfl, inV_N]
      refine ⟨_, rfl, ?_⟩
      by_cases q2 : c.1 ∈ ns.map (·.2)
      · rw [decide_eq_true q2, if_neg (by decide)]
        rwa [if_neg (by rw [decide_eq_true (List.mem_append_left _ q2)]; decide)] at step
      rw [decide_eq_false q2, if_pos (by decide)]
      rwa [if_pos (by rw [decide_eq_false (fun z => (List.mem_append.mp z).elim q2 fun z => q1 (gm.mp z))]; rfl)] at step
    rintro H13 ⟨s13, hD13⟩
    rw [List.length_map, List.length_map, List.take_length] at hD13
    refine ⟨D, rfl, _, SqL.of hD13, fun l o hl ho => hU _ _ ?_⟩
    clear hU
    have ldu : ((srt ds).filter fun c => !decide (c.1 ∈ ns.map (·.2) ++ (srt ds).map (·.2))).length ≤ 10 := by
      have := List.length_filter_le (fun c : Nat × Nat => !decide (c.1 ∈ ns.map (·.2) ++ (srt ds).map (·.2))) (srt ds)
      omega
    have rdu : ∀ x ∈ ((srt ds).filter fun c => !decide (c.1 ∈ ns.map (·.2) ++ (srt ds).map (·.2))).map (·.1), x ≤ 999 := fun x hx => by
      obtain ⟨c, hc, rfl⟩ := List.mem_map.mp hx
      exact (okd.2.1 c ((srt_perm ds).mem_iff.mp (List.mem_filter.mp hc).1)).2.1
    have s14 := s12.trans (s13.trans (same_new (o := .frz o (.tup ((((srt ds).filter fun c => !decide (c.1 ∈ ns.map (·.2) ++ (srt ds).map (·.2))).map (·.1)).map vN))) hl))
    have f14 : SqT K (upd H13 l (.frz o (.tup ((((srt ds).filter fun c => !decide (c.1 ∈ ns.map (·.2) ++ (srt ds).map (·.2))).map (·.1)).map vN)))) l ((((srt ds).filter fun c => !decide (c.1 ∈ ns.map (·.2) ++ (srt ds).map (·.2))).map (·.1)).map vN) := (PlT.new ho).sqt
    generalize upd H13 l (.frz o (.tup ((((srt ds).filter fun c => !decide (c.1 ∈ ns.map (·.2) ++ (srt ds).map (·.2))).map (·.1)).map vN))) = H14 at s14 f14 ⊢
    have hls14 := hls11.up s14
    have hst14 := hst11.up s14
    have B14 := B11.trans (But.same s14)
    have w14 := w11.but s14
    clear s14 s13 hD13 s12 f12 hG12 hS12 hls11 hst11 B11 w11 hG11 hS11 a11 n11 c11 hl hD py sy hp
    refine sq fun U hU => ?_
    walk_at "rd"
    refine ⟨r, ns, srt ds, rfl, hst14, fun p1 G1 g1 h1 => ⟨r, ns, srt ds, rfl, hst14.up g1, fun p2 G2 g2 h2 => ⟨by omega, fun p5 hp5 => ?_⟩⟩⟩
    have z5 := same_new (o := .lst [.ref p1, .ref p2]) hp5
    have fd1 := fit_tup rdu (by rw [List.length_map]; exact ldu)
    refine rRepr_fit (fit_two fd1) (by decide) (by decide) (.lst (SqL.of upd_same) (.cons (.tup (sqt_up z5 (sqt_up g2 h1)) (dp_ns _)) (.cons (.tup (sqt_up z5 h2) (dp_ns _)) .nil))) ?_
    have q5 := g1.trans (g2.trans z5)
    generalize upd G2 p5 (.lst [.ref p1, .ref p2]) = G3 at q5 ⊢
    refine ⟨by omega, fun p6 hp6 => ?_⟩
    have q6 := q5.trans (same_new (o := .lst [.ref l, .ref l]) hp6)
    refine rRepr_fit (fit_two fd1) (by decide) (by decide) (.lst (SqL.of upd_same) (.cons (.tup (sqt_up q6 f14) (dp_ns _)) (.cons (.tup (sqt_up q6 f14) (dp_ns _)) .nil))) ?_
    walk_at "rd"
    refine hU _ _ ?_
    clear hU
    generalize upd G3 p6 (.lst [.ref l, .ref l]) = H15 at q6 ⊢
    have hls15 := hls14.up q6
    have hst15 := hst14.up q6
    have B15 := B14.trans (But.same q6)
    have w15 := w14.but q6
    clear q6 q5 z5 g1 g2 h1 h2 hp5 hp6 f14 fd1 hls14 hst14 B14 w14
    refine sq fun U hU => ?_
    walk_at "rd"
    refine ⟨9, a, dn, dc, ns, ds, rfl, hls15, by decide, fun RL xs rows R H16 s16 hRL hrw iR okQ allQ ltQ lQ => ⟨RL, rfl, _, SqL.of hRL, fun l2 o2 hl2 ho2 => hU _ _ ?_⟩⟩
    clear hU
    have s17 := s16.trans (same_new (o := .frz o2 (.tup xs)) hl2)
    have f17 : SqT K (upd H16 l2 (.frz o2 (.tup xs))) l2 xs := (PlT.new ho2).sqt
    have hrw17 := hrw.up (same_new (o := .frz o2 (.tup xs)) hl2)
    generalize upd H16 l2 (.frz o2 (.tup xs)) = H17 at s17 f17 hrw17 ⊢
    have hls17 := hls15.up s17
    have hst17 := hst15.up s17
    have B17 := B15.trans (But.same s17)
    have w17 := w15.but s17
    clear s17 hls15 hst15 B15 w15 hrw hRL s16 hl2
    walk_at "rd"
    have same : ∀ (rows' : List (List Nat)) (R' : List Nat), (∀ x, x ∈ R' ↔ Rch (srt ds) (ns.map (·.2)) x) → rows'.Nodup → (∀ W ∈ rows', ∃ m, Ring (srt ds) m W ∧ m ∉ R') → (∀ m W, Ring (srt ds) m W → m ∉ R' → W ∈ rows') → rows'.Pairwise (fun r s => r.headD 0 ≤ s.headD 0) → rows' = rows := fun rows' R' i' n' ok' al' le' => by
      have e : ∀ m, m ∉ R' ↔ m ∉ R := fun m => not_congr ((i' m).trans (iR m).symm)
      exact rings_eq (cs := srt ds) (R := R) n' (fun W hW => by
        obtain ⟨m, g, n⟩ := ok' W hW
        exact ⟨m, g, (e m).mp n⟩) (fun m W g n => al' m W g ((e m).mpr n)) le' okQ allQ ltQ
    have bnd : ∀ W ∈ rows, W.length ≤ 10 ∧ ∀ x ∈ W, x ≤ 999 := fun W hW => by
      obtain ⟨m, g, _⟩ := okQ W hW
      refine ⟨?_, fun x hx => ?_⟩
      · have := few g.cyc.nd g.cyc.ch.key
        omega
      · obtain ⟨c, hc, e⟩ := look_some.mp (g.cyc.ch.key x hx)
        rw [← e]
        exact (okd.2.1 c ((srt_perm ds).mem_iff.mp hc)).2.1
    have fr := fit_rows bnd (by omega)
    refine ⟨r, ns, srt ds, rfl, hst17, fun t1 x1 r1 R1 G1 g1 p1 w1 i1 n1 ok1 al1 le1 => ⟨r, ns, srt ds, rfl, hst17.up g1, fun t2 x2 r2 R2 G2 g2 p2 w2 i2 n2 ok2 al2 le2 => ⟨by omega, fun p5 hp5 => ?_⟩⟩⟩
    have e1 := same r1 R1 i1 n1 ok1 al1 le1
    have e2 := same r2 R2 i2 n2 ok2 al2 le2
    subst e1
    subst e2
    have z5 := same_new (o := .lst [.ref t1, .ref t2]) hp5
    refine rRepr_fit (fit_two fr) (by decide) (by decide) (.lst (SqL.of upd_same) (.cons (.tup (sqt_up z5 (sqt_up g2 p1.sqt)) (dp_rows ((w1.up g2).up z5))) (.cons (.tup (sqt_up z5 p2.sqt) (dp_rows (w2.up z5))) .nil))) ?_
    have q5 := g1.trans (g2.trans z5)
    generalize upd G2 p5 (.lst [.ref t1, .ref t2]) = G3 at q5 ⊢
    refine ⟨by omega, fun p6 hp6 => ?_⟩
    have q6 := q5.trans (same_new (o := .lst [.ref l2, .ref l2]) hp6)
    refine rRepr_fit (fit_two fr) (by decide) (by decide) (.lst (SqL.of upd_same) (.cons (.tup (sqt_up q6 f17) (dp_rows (hrw17.up q6))) (.cons (.tup (sqt_up q6 f17) (dp_rows (hrw17.up q6))) .nil))) ?_
    walk_at "rd"
    generalize upd G3 p6 (.lst [.ref l2, .ref l2]) = H18 at q6 ⊢
    have hls18 := hls17.up q6
    have hst18 := hst17.up q6
    obtain ⟨dx, fs, hr18⟩ := hst18.at
    refine ⟨dx, fs, hr18, r, ns, srt ds, rfl, hst18, fun G5 g5 => ⟨9, a, dn, dc, ns, ds, rfl, hls18.up g5, by decide, fun G6 g6 => ?_⟩⟩
    walk_at "rd"
    exact k _ (B17.trans (But.same (q6.trans (g5.trans g6)))) (((w17.but q6).but g5).but g6)
end
end K79

set_option Elab.async false
set_option linter.all false
set_option maxRecDepth 100000
set_option maxHeartbeats 4000000
namespace K79
open PySem PySem.Spec PyProof.Rows L2 Rd Dt Dq Pk Ln En Sx Sy So Sr Lk Rq
local macro_rules | `(tactic| walk_at "rd") => `(tactic| try simp only [↓Lk.tLockE_, ↓Lk.tLock_, ↓Lk.tLc_keys, ↓Lk.tFor_keys, ↓Sy.tTupP_, ↓Sy.rTupP_, ↓Sy.rCatP_, ↓Sy.rSlP_, ↓Sy.rDictT_, ↓Sy.tDGet_, ↓Sy.tDGet1_, ↓Sy.tDIn_, ↓Sy.tDNotIn_, ↓Sy.tMeth_, ↓Sy.tMethKw_, ↓Sy.rSortedS_, ↓Sx.rIsT_, ↓En.tFor_enumT, ↓Sy.tFor_enumL, ↓Rv.tMakeKw_, ↓Prp.tProp_, ↓Lo.tBits_, ↓Lo.tJs_n, ↓Lo.tJs_c, ↓Lo.tFmt_, ↓Lo.gFld_, ↓Lo.tMake_, ↓Lo.rOwn_, ↓Rg.tFor_range3, ↓Rg.tLc_range3, ↓Rg.tLstC_, ↓Rg.tLc_rngV, ↓Le.rNeLE_, ↓Le.rEqLE_, ↓Ls.tLc_str, ↓Ls.sDPut_, ↓Rl.rReprL_, ↓Rl.tCallKS_, ↓Ob.tFld_, ↓Ob.sFld_, ↓tVar_, ↓tC_, ↓tM1, ↓tDNewK_, ↓tOp_, ↓tUn_, ↓rI_, ↓rI0_, ↓rU_, ↓eq_ii, ↓ne_ii, ↓eq_ss, ↓ne_ss, ↓eq_bb, ↓ne_bb, ↓tAndV_, ↓tOrV_, ↓tNotV_, ↓tIf_, ↓tTest_, ↓tB_, ↓tAnd_, ↓tOr_, ↓tNot_, ↓tChain_, ↓tNil_, ↓tCons_, ↓tTup_, ↓tLst_, ↓tCB_, ↓tCall_, ↓tSeq_, ↓tNext_, ↓tRet_, ↓tRetN_, ↓tDrop_, ↓tBreak_, ↓tNever_, ↓tIfS_, ↓tAsg_, ↓gName_, ↓gTup_, ↓gCons_, ↓gNil_, ↓gSub_, ↓tPar_, ↓tPar3_, ↓tSl_, ↓tNoPart_, ↓tPart_, ↓tBM_, ↓tFor_range1, ↓tFor_range2, ↓tFor_list, ↓tFor_tup, L2.start, List.headD_cons, List.headD_nil, List.tail_cons, List.map_cons, List.map_nil, List.length_cons, List.length_nil, List.replicate, List.append_nil, List.nil_append, List.cons_append, List.getElem?_cons_zero, List.getElem?_cons_succ, List.set_cons_zero, List.set_cons_succ, Option.some.injEq, V.int.injEq, V.bl.injEq, V.str.injEq, V.ref.injEq, exists_eq_left, exists_eq_left', exists_eq_right, exists_eq, exists_and_left, and_true, true_and, decide_eq_true_eq, Nat.reduceAdd, Nat.reduceSub, Nat.add_zero, Nat.zero_add, List.cons.injEq, Bool.not_eq_true', decide_eq_false_iff_not, eq_self, reduceCtorEq, Bool.false_eq_true, if_true, if_false, ite_true, ite_false, and_self, ↓tLc_range1, ↓tLc_range2, ↓tLc_list, ↓tLc_tup, ↓tYes_, wipe0, wipe1, ↓tCallS_, ↓rIxL_, ↓rIxT_, ↓rSlL_, ↓rCat_, ↓rSetL_, ↓rRep_, ↓rGcd_, ↓tCallK_, ↓gUnl_, ↓tRaise_, decide_true, decide_false, not_true_eq_false, not_false_eq_true, false_and, or_false, false_or, and_false, and_assoc, exists_const, forall_const, forall_eq'])
section
variable {P : Program} {w : World} {K : PySem.W.Frag} {mg : Str → Option Value} {base : Heap}
theorem sc_law : FnScope ["_law_script", "_law_turn"] ["_law_script"] (defScope (top 47)) := ⟨rfl, rfl, rfl, by decide +kernel, rfl, by decide +kernel, by decide +kernel⟩
def spLaw (K : PySem.W.Frag) : Sp := fun vs H Q _ => ∃ (a : Addr) (ns : List Int), vs = [.ref a] ∧ SqL K H a (ns.map V.int) ∧ ns.length ≤ 63 ∧ ∀ H', Q (.bl true) H'
def lwP (H : Hp) (D : Addr) (i : Nat) (H' : Hp) : Prop := Same H H' ∧ H' D = some (.lst ((List.replicate i true).map V.bl))
theorem ok_law (T : Tx mg) {f : Addr} {fd : FuncData} (F : FD K "law" (top 47) f fd) {f1 f2 : Addr} {fd1 fd2 : FuncData} (C1 : CalG P w K mg base CX0 10 "_law_right" ["_law_urn_here"] spG f1 fd1)
    (C2 : Cal P w K mg base CX0 1 "_law_urn" ["_law_script", "_law_turn"] (spUrn K) f2 fd2) : Ga.FnG P w K mg base CX0 11 f fd ["_law_script"] (spLaw K) := by
  obtain ⟨g_law_right, k_law_right, b_law_right, F_law_right⟩ := C1
  obtain ⟨g_law_urn, k_law_urn, b_law_urn, F_law_urn⟩ := C2
  refine Ga.FnG.mk' F sc_law (fun vs H Q E h => ?_) (fun cdv A outer s' H vs Q E hG hr h => ?_)
  · obtain ⟨_, _, rfl, _⟩ := h
    rfl
  · obtain ⟨a, ns, rfl, ha, hn, k⟩ := h
    have nd := sc_law.nd
    refine ⟨_, (pss_one (ps_ret (pe_callB (cr_all rfl) (by rfl) T.b_all (by decide +kernel) (pa_cons (pe_lc (own := [("_law_turn", 1)]) rfl nd (pi_range1 rfl T.b_range (pa_cons (pe_callB (call_max2 rfl) (by rfl) T.b_max (by decide +kernel) (pa_cons pe_int (pa_cons (pe_callB (call_min2 rfl) (by rfl) T.b_min (by decide +kernel) (pa_cons (pe_callB call_len_seq (by rfl) T.b_len PySem.boot_len (pa_cons (pv 0) pa_nil)) (pa_cons pe_int pa_nil))) pa_nil))) pa_nil)) (blkOk_by (N := ["_law_script", "_law_turn"]) (sc := defScope (top 47)) (by decide +kernel)) (fun _ _ _ _ _ => (pg_name (i := 1) nd rfl (Or.inl rfl))) (fun _ _ _ _ _ => pts_nil) (fun _ _ _ _ _ => (Ga.pe_callG F_law_right hG (hr.mono (by omega)) rfl g_law_right k_law_right b_law_right .nil pass0 (pa_cons (pe_call F_law_urn (hr.mono (by omega)) rfl g_law_urn k_law_urn b_law_urn .nil pass0 (pa_cons (pv 0) (pa_cons (pv 1) pa_nil))) pa_nil)))) pa_nil)))), ?_⟩
    walk_at "rd"
    refine ⟨_, .inl ha, ?_⟩
    have en : ∃ n : Int, n = (if (if 3 < ((ns.map V.int).length : Int) then 3 else ((ns.map V.int).length : Int)) > 2 then (if 3 < ((ns.map V.int).length : Int) then 3 else ((ns.map V.int).length : Int)) else 2) ∧ 2 ≤ n ∧ n ≤ 3 := ⟨_, rfl, by split <;> split <;> omega, by split <;> split <;> omega⟩
    obtain ⟨n, e, n2, n3⟩ := en
    rw [← e]
    refine ⟨by omega, by omega, lc_r (lwP H) fun D hD => ⟨⟨same_new hD, upd_same⟩, ?_, ?_⟩⟩
    · rintro i H' hi ⟨hs, hL⟩
      unfold Lturn
      walk_at "rd"
      refine ⟨a, ns, _, rfl, hs.seq ha, hn, by omega, by omega, fun u H1 s1 u0 w1 => ⟨u, rfl, w1, fun H2 b2 w2 => ?_⟩⟩
      have s2 : Same H' H2 := fun b o e => b2 b o (ne_of_none e u0) (s1 b o e)
      refine ⟨_, s2 _ _ hL, ?_, fun b o e => ?_, ?_⟩
      · rw [List.length_map, List.length_replicate]
        refine Nat.lt_of_le_of_lt (show i ≤ 3 by omega) (by rw [sizeLine_eq]; decide)
      · rw [upd_ne (ne_of_none e hD)]
        exact s2 b o (hs b o e)
      · rw [upd_same, List.replicate_succ', List.map_append]; rfl
    · rintro H' ⟨hs, hL⟩
      refine ⟨D, _, rfl, SqL.of hL, ?_⟩
      rw [show (List.replicate n.toNat true).all id = true from by simp]
      exact k _
end
end K79

set_option Elab.async false
set_option linter.all false
set_option maxRecDepth 100000
set_option maxHeartbeats 0
namespace K79H
open PySem PySem.Spec PyProof.Rows L2 Rd Dt Dq Pk Ln En Sx Sy So Sr Lk K79
def d0 : He.DefD := ⟨("is_whole", none), "is_whole", "is_whole", defArgs (top 14), defBody (top 14), defScope (top 14), [], []⟩
def d1 : He.DefD := ⟨("is_between", none), "is_between", "is_between", defArgs (top 15), defBody (top 15), defScope (top 15), [], []⟩
def d2 : He.DefD := ⟨("is_place", none), "is_place", "is_place", defArgs (top 16), defBody (top 16), defScope (top 16), [], []⟩
def d3 : He.DefD := ⟨("is_letter", none), "is_letter", "is_letter", defArgs (top 17), defBody (top 17), defScope (top 17), [], []⟩
def d4 : He.DefD := ⟨("is_pair", none), "is_pair", "is_pair", defArgs (top 18), defBody (top 18), defScope (top 18), [], []⟩
def d5 : He.DefD := ⟨("are_name_pairs", none), "are_name_pairs", "are_name_pairs", defArgs (top 20), defBody (top 20), defScope (top 20), [], []⟩
def d6 : He.DefD := ⟨("check_cells", none), "check_cells", "check_cells", defArgs (top 21), defBody (top 21), defScope (top 21), [], []⟩
def d7 : He.DefD := ⟨("Store", some "__init__"), "__init__", "Store.__init__", defArgs (inClass (top 22) 0), defBody (inClass (top 22) 0), defScope (inClass (top 22) 0), [], []⟩
def d8 : He.DefD := ⟨("check_store", none), "check_store", "check_store", defArgs (top 23), defBody (top 23), defScope (top 23), [], []⟩
def d9 : He.DefD := ⟨("arrows_into", none), "arrows_into", "arrows_into", defArgs (top 27), defBody (top 27), defScope (top 27), [], []⟩
def d10 : He.DefD := ⟨("name_places", none), "name_places", "name_places", defArgs (top 29), defBody (top 29), defScope (top 29), [], []⟩
def d11 : He.DefD := ⟨("unasked_cells", none), "unasked_cells", "unasked_cells", defArgs (top 28), defBody (top 28), defScope (top 28), [], []⟩
def d12 : He.DefD := ⟨("unasked", none), "unasked", "unasked", defArgs (top 30), defBody (top 30), defScope (top 30), [], []⟩
def d13 : He.DefD := ⟨("reached_cells", none), "reached_cells", "reached_cells", defArgs (top 25), defBody (top 25), defScope (top 25), [], []⟩
def d14 : He.DefD := ⟨("ring_from", none), "ring_from", "ring_from", defArgs (top 31), defBody (top 31), defScope (top 31), [], []⟩
def d15 : He.DefD := ⟨("lost_rings", none), "lost_rings", "lost_rings", defArgs (top 32), defBody (top 32), defScope (top 32), [], []⟩
def d16 : He.DefD := ⟨("_law_urn", none), "_law_urn", "_law_urn", defArgs (top 34), defBody (top 34), defScope (top 34), [], []⟩
def d17 : He.DefD := ⟨("_law_take", none), "_law_take", "_law_take", defArgs (top 35), defBody (top 35), defScope (top 35), [], []⟩
def d18 : He.DefD := ⟨("_law_of", none), "_law_of", "_law_of", defArgs (top 36), defBody (top 36), defScope (top 36), [], []⟩
def d19 : He.DefD := ⟨("_law_letters", none), "_law_letters", "_law_letters", defArgs (top 37), defBody (top 37), defScope (top 37), [], []⟩
def d20 : He.DefD := ⟨("_law_places", none), "_law_places", "_law_places", defArgs (top 38), defBody (top 38), defScope (top 38), [], []⟩
def d21 : He.DefD := ⟨("_law_store", none), "_law_store", "_law_store", defArgs (top 39), defBody (top 39), defScope (top 39), [], []⟩
def d22 : He.DefD := ⟨("_law_text", none), "_law_text", "_law_text", defArgs (top 40), defBody (top 40), defScope (top 40), [], []⟩
def d23 : He.DefD := ⟨("_law_made", none), "_law_made", "_law_made", defArgs (top 41), defBody (top 41), defScope (top 41), [], []⟩
def d24 : He.DefD := ⟨("_law_way", none), "_law_way", "_law_way", defArgs (top 42), defBody (top 42), defScope (top 42), [], []⟩
def d25 : He.DefD := ⟨("_law_reached", none), "_law_reached", "_law_reached", defArgs (top 43), defBody (top 43), defScope (top 43), [], []⟩
def d26 : He.DefD := ⟨("_law_rings", none), "_law_rings", "_law_rings", defArgs (top 44), defBody (top 44), defScope (top 44), [], []⟩
def d27 : He.DefD := ⟨("_law_crowd", none), "_law_crowd", "_law_crowd", defArgs (top 45), defBody (top 45), defScope (top 45), [], []⟩
def d28 : He.DefD := ⟨("_law_right", none), "_law_right", "_law_right", defArgs (top 46), defBody (top 46), defScope (top 46), [], []⟩
def d29 : He.DefD := ⟨("law", none), "law", "law", defArgs (top 47), defBody (top 47), defScope (top 47), [], []⟩
def fn : List He.DefD := [d0, d1, d2, d3, d4, d5, d6, d7, d8, d9, d10, d11, d12, d13, d14, d15, d16, d17, d18, d19, d20, d21, d22, d23, d24, d25, d26, d27, d28, d29]
def fa : List He.Fa := [.glo "is_whole", .glo "is_between", .glo "is_place", .glo "is_letter", .glo "is_pair", .glo "are_name_pairs", .glo "check_cells", .glo "Store", .glo "check_store", .glo "arrows_into", .glo "name_places", .glo "unasked_cells", .glo "unasked", .glo "reached_cells", .glo "ring_from", .glo "lost_rings", .glo "_law_urn", .glo "_law_take", .glo "_law_of", .glo "_law_letters", .glo "_law_places", .glo "_law_store", .glo "_law_text", .glo "_law_made", .glo "_law_way", .glo "_law_reached", .glo "_law_rings", .glo "_law_crowd", .glo "_law_right", .glo "law", .free "len", .free "int", .free "isinstance", .free "abs", .free "divmod", .free "range", .free "max", .free "min", .free "repr", .free "all", .free "list", .free "tuple", .free "str", .free "bool", .free "dict", .free "enumerate", .free "sorted", .free "sum", .free "set", .int "END" (0), .int "MOST_PLACE" (999), .int "MOST_CELLS" (500), .int "MOST_NAMES" (4), .str "LETTERS" abc, .cls "Store", .noat "Store" "names", .noat "Store" "cells", .noat "Store" "places", .noat "Store" "arrows", .noat "Store" "letters", .mkr "Store"]
def ex (K : PySem.W.Frag) : Bool := Sm.sysB K && (Lo.ownB K "Store")
def prs : List Prp.PrD := [⟨"Store", ⟨("Store", some "text"), "text", "Store.text", defArgs (inClass (top 22) 2), defBody (inClass (top 22) 2), defScope (inClass (top 22) 2), [], []⟩⟩]
abbrev R : PySem.W.OpenRow := PySem.W.OpenLaw.row PySem.Challenge.rw_arrowcells_k79_whole_arrows_and_lost_rin
abbrev hk : PySem.W.Hook := Prp.hookP 6 fa fn prs ex
def ob (s : PySem.W.SharedT) : Prp.AlP := Prp.obsP 6 fa fn prs ex (HandSHeadRun.getT s)
theorem ob_eq (s : PySem.W.SharedT) : ob s = hk.obs s.abs := Prp.obsP_eq (HandSHeadRun.getT_eq s)
abbrev nm : List PySem.Str := ("_wall" : PySem.Str) :: ("ArrowError" : PySem.Str) :: ("InvalidNames" : PySem.Str) :: ("InvalidPlace" : PySem.Str) :: ("NotAStore" : PySem.Str) :: ("UnknownName" : PySem.Str) :: ("InvalidCells" : PySem.Str) :: ("LETTERS" : PySem.Str) :: ("END" : PySem.Str) :: ("MOST_PLACE" : PySem.Str) :: ("MOST_CELLS" : PySem.Str) :: ("MOST_NAMES" : PySem.Str) :: ("is_whole" : PySem.Str) :: ("is_between" : PySem.Str) :: ("is_place" : PySem.Str) :: ("is_letter" : PySem.Str) :: ("is_pair" : PySem.Str) :: ("are_name_pairs" : PySem.Str) :: ("check_cells" : PySem.Str) :: ("Store" : PySem.Str) :: ("check_store" : PySem.Str) :: ("reached_cells" : PySem.Str) :: ("arrows_into" : PySem.Str) :: ("unasked_cells" : PySem.Str) :: ("name_places" : PySem.Str) :: ("unasked" : PySem.Str) :: ("ring_from" : PySem.Str) :: ("lost_rings" : PySem.Str) :: ("_law_urn" : PySem.Str) :: ("_law_take" : PySem.Str) :: ("_law_of" : PySem.Str) :: ("_law_letters" : PySem.Str) :: ("_law_places" : PySem.Str) :: ("_law_store" : PySem.Str) :: ("_law_text" : PySem.Str) :: ("_law_made" : PySem.Str) :: ("_law_way" : PySem.Str) :: ("_law_reached" : PySem.Str) :: ("_law_rings" : PySem.Str) :: ("_law_crowd" : PySem.Str) :: ("_law_right" : PySem.Str) :: []
theorem run (w : World) : HandSHeadRun.RunEq R (PySem.W.view R.prog [47]) hk ob 5000 nm w := by
  intro os
  kernel_rfl
theorem facts {P : Program} {w : World} {K : PySem.W.Frag} {h : Heap} {mg : Str → Option Value} {f : Addr} (X : K.In h) (G : h.Ns mainGlobals mg) (hfa : mg ("law" : Str) = some (.ref f)) (c : He.SaysD fa fn K) (xx : ex K = true) (pp : Prp.SaysP prs K) :
    ∃ fd : FuncData, (∀ (s : Shared) (v : Value), BindsTo s fd ⟨[v], []⟩ [("_law_script", v)]) ∧ ∀ base : Heap, K.In base → base.Ns mainGlobals mg → Ga.FnG P w K mg base CX0 11 f fd ["_law_script"] (spLaw K) := by
  obtain ⟨fd_is_whole, F_is_whole⟩ := c.def_ 0 (d := d0) rfl
  obtain ⟨fd_is_between, F_is_between⟩ := c.def_ 1 (d := d1) rfl
  obtain ⟨fd_is_place, F_is_place⟩ := c.def_ 2 (d := d2) rfl
  obtain ⟨fd_is_letter, F_is_letter⟩ := c.def_ 3 (d := d3) rfl
  obtain ⟨fd_is_pair, F_is_pair⟩ := c.def_ 4 (d := d4) rfl
  obtain ⟨fd_are_name_pairs, F_are_name_pairs⟩ := c.def_ 5 (d := d5) rfl
  obtain ⟨fd_check_cells, F_check_cells⟩ := c.def_ 6 (d := d6) rfl
  obtain ⟨fd_Store___init__, F_Store___init__⟩ := c.def_ 7 (d := d7) rfl
  obtain ⟨fd_check_store, F_check_store⟩ := c.def_ 8 (d := d8) rfl
  obtain ⟨fd_arrows_into, F_arrows_into⟩ := c.def_ 9 (d := d9) rfl
  obtain ⟨fd_name_places, F_name_places⟩ := c.def_ 10 (d := d10) rfl
  obtain ⟨fd_unasked_cells, F_unasked_cells⟩ := c.def_ 11 (d := d11) rfl
  obtain ⟨fd_unasked, F_unasked⟩ := c.def_ 12 (d := d12) rfl
  obtain ⟨fd_reached_cells, F_reached_cells⟩ := c.def_ 13 (d := d13) rfl
  obtain ⟨fd_ring_from, F_ring_from⟩ := c.def_ 14 (d := d14) rfl
  obtain ⟨fd_lost_rings, F_lost_rings⟩ := c.def_ 15 (d := d15) rfl
  obtain ⟨fd__law_urn, F__law_urn⟩ := c.def_ 16 (d := d16) rfl
  obtain ⟨fd__law_take, F__law_take⟩ := c.def_ 17 (d := d17) rfl
  obtain ⟨fd__law_of, F__law_of⟩ := c.def_ 18 (d := d18) rfl
  obtain ⟨fd__law_letters, F__law_letters⟩ := c.def_ 19 (d := d19) rfl
  obtain ⟨fd__law_places, F__law_places⟩ := c.def_ 20 (d := d20) rfl
  obtain ⟨fd__law_store, F__law_store⟩ := c.def_ 21 (d := d21) rfl
  obtain ⟨fd__law_text, F__law_text⟩ := c.def_ 22 (d := d22) rfl
  obtain ⟨fd__law_made, F__law_made⟩ := c.def_ 23 (d := d23) rfl
  obtain ⟨fd__law_way, F__law_way⟩ := c.def_ 24 (d := d24) rfl
  obtain ⟨fd__law_reached, F__law_reached⟩ := c.def_ 25 (d := d25) rfl
  obtain ⟨fd__law_rings, F__law_rings⟩ := c.def_ 26 (d := d26) rfl
  obtain ⟨fd__law_crowd, F__law_crowd⟩ := c.def_ 27 (d := d27) rfl
  obtain ⟨fd__law_right, F__law_right⟩ := c.def_ 28 (d := d28) rfl
  obtain ⟨fd_law, F_law⟩ := c.def_ 29 (d := d29) rfl
  obtain ⟨P_Store_text, fd_Store_text, F_Store_text⟩ := pp.at 0 (p := prs[0]) rfl
  have g_is_whole := He.glo_ok X G (c.fact 0 (f := .glo "is_whole") rfl)
  have g_is_between := He.glo_ok X G (c.fact 1 (f := .glo "is_between") rfl)
  have g_is_place := He.glo_ok X G (c.fact 2 (f := .glo "is_place") rfl)
  have g_is_letter := He.glo_ok X G (c.fact 3 (f := .glo "is_letter") rfl)
  have g_is_pair := He.glo_ok X G (c.fact 4 (f := .glo "is_pair") rfl)
  have g_are_name_pairs := He.glo_ok X G (c.fact 5 (f := .glo "are_name_pairs") rfl)
  have g_check_cells := He.glo_ok X G (c.fact 6 (f := .glo "check_cells") rfl)
  have g_Store := He.glo_ok X G (c.fact 7 (f := .glo "Store") rfl)
  have g_check_store := He.glo_ok X G (c.fact 8 (f := .glo "check_store") rfl)
  have g_arrows_into := He.glo_ok X G (c.fact 9 (f := .glo "arrows_into") rfl)
  have g_name_places := He.glo_ok X G (c.fact 10 (f := .glo "name_places") rfl)
  have g_unasked_cells := He.glo_ok X G (c.fact 11 (f := .glo "unasked_cells") rfl)
  have g_unasked := He.glo_ok X G (c.fact 12 (f := .glo "unasked") rfl)
  have g_reached_cells := He.glo_ok X G (c.fact 13 (f := .glo "reached_cells") rfl)
  have g_ring_from := He.glo_ok X G (c.fact 14 (f := .glo "ring_from") rfl)
  have g_lost_rings := He.glo_ok X G (c.fact 15 (f := .glo "lost_rings") rfl)
  have g__law_urn := He.glo_ok X G (c.fact 16 (f := .glo "_law_urn") rfl)
  have g__law_take := He.glo_ok X G (c.fact 17 (f := .glo "_law_take") rfl)
  have g__law_of := He.glo_ok X G (c.fact 18 (f := .glo "_law_of") rfl)
  have g__law_letters := He.glo_ok X G (c.fact 19 (f := .glo "_law_letters") rfl)
  have g__law_places := He.glo_ok X G (c.fact 20 (f := .glo "_law_places") rfl)
  have g__law_store := He.glo_ok X G (c.fact 21 (f := .glo "_law_store") rfl)
  have g__law_text := He.glo_ok X G (c.fact 22 (f := .glo "_law_text") rfl)
  have g__law_made := He.glo_ok X G (c.fact 23 (f := .glo "_law_made") rfl)
  have g__law_way := He.glo_ok X G (c.fact 24 (f := .glo "_law_way") rfl)
  have g__law_reached := He.glo_ok X G (c.fact 25 (f := .glo "_law_reached") rfl)
  have g__law_rings := He.glo_ok X G (c.fact 26 (f := .glo "_law_rings") rfl)
  have g__law_crowd := He.glo_ok X G (c.fact 27 (f := .glo "_law_crowd") rfl)
  have g__law_right := He.glo_ok X G (c.fact 28 (f := .glo "_law_right") rfl)
  have g_law := He.glo_ok X G (c.fact 29 (f := .glo "law") rfl)
  have b_len := He.free_ok X G (c.fact 30 (f := .free "len") rfl)
  have b_int := He.free_ok X G (c.fact 31 (f := .free "int") rfl)
  have b_isinstance := He.free_ok X G (c.fact 32 (f := .free "isinstance") rfl)
  have b_abs := He.free_ok X G (c.fact 33 (f := .free "abs") rfl)
  have b_divmod := He.free_ok X G (c.fact 34 (f := .free "divmod") rfl)
  have b_range := He.free_ok X G (c.fact 35 (f := .free "range") rfl)
  have b_max := He.free_ok X G (c.fact 36 (f := .free "max") rfl)
  have b_min := He.free_ok X G (c.fact 37 (f := .free "min") rfl)
  have b_repr := He.free_ok X G (c.fact 38 (f := .free "repr") rfl)
  have b_all := He.free_ok X G (c.fact 39 (f := .free "all") rfl)
  have b_list := He.free_ok X G (c.fact 40 (f := .free "list") rfl)
  have b_tuple := He.free_ok X G (c.fact 41 (f := .free "tuple") rfl)
  have b_str := He.free_ok X G (c.fact 42 (f := .free "str") rfl)
  have b_bool := He.free_ok X G (c.fact 43 (f := .free "bool") rfl)
  have b_dict := He.free_ok X G (c.fact 44 (f := .free "dict") rfl)
  have b_enumerate := He.free_ok X G (c.fact 45 (f := .free "enumerate") rfl)
  have b_sorted := He.free_ok X G (c.fact 46 (f := .free "sorted") rfl)
  have b_sum := He.free_ok X G (c.fact 47 (f := .free "sum") rfl)
  have b_set := He.free_ok X G (c.fact 48 (f := .free "set") rfl)
  have i_END := He.int_ok X G (c.fact 49 (f := .int "END" (0)) rfl)
  have i_MOST_PLACE := He.int_ok X G (c.fact 50 (f := .int "MOST_PLACE" (999)) rfl)
  have i_MOST_CELLS := He.int_ok X G (c.fact 51 (f := .int "MOST_CELLS" (500)) rfl)
  have i_MOST_NAMES := He.int_ok X G (c.fact 52 (f := .int "MOST_NAMES" (4)) rfl)
  have i_LETTERS := He.str_ok X G (c.fact 53 (f := .str "LETTERS" abc) rfl)
  have z_cls := He.cls_ok (c.fact 54 (f := .cls "Store") rfl)
  have z_n := He.noat_ok (c.fact 55 (f := .noat "Store" "names") rfl)
  have z_c := He.noat_ok (c.fact 56 (f := .noat "Store" "cells") rfl)
  have z_p := He.noat_ok (c.fact 57 (f := .noat "Store" "places") rfl)
  have z_a := He.noat_ok (c.fact 58 (f := .noat "Store" "arrows") rfl)
  have z_l := He.noat_ok (c.fact 59 (f := .noat "Store" "letters") rfl)
  have z_mk := He.mkr_ok (c.fact 60 (f := .mkr "Store") rfl)
  have k_is_whole : Binds K fd_is_whole ["value"] [] := F_is_whole.bindsN fun _ _ _ _ _ _ us hl => match us, hl with | [_], _ => rfl
  have k_is_between : Binds K fd_is_between ["value", "low", "high"] [] := F_is_between.bindsN fun _ _ _ _ _ _ us hl => match us, hl with | [_, _, _], _ => rfl
  have k_is_place : Binds K fd_is_place ["value"] [] := F_is_place.bindsN fun _ _ _ _ _ _ us hl => match us, hl with | [_], _ => rfl
  have k_is_letter : Binds K fd_is_letter ["value"] [] := F_is_letter.bindsN fun _ _ _ _ _ _ us hl => match us, hl with | [_], _ => rfl
  have k_is_pair : Binds K fd_is_pair ["value"] [] := F_is_pair.bindsN fun _ _ _ _ _ _ us hl => match us, hl with | [_], _ => rfl
  have k_are_name_pairs : Binds K fd_are_name_pairs ["value"] [] := F_are_name_pairs.bindsN fun _ _ _ _ _ _ us hl => match us, hl with | [_], _ => rfl
  have k_check_cells : Binds K fd_check_cells ["value"] [] := F_check_cells.bindsN fun _ _ _ _ _ _ us hl => match us, hl with | [_], _ => rfl
  have k_Store___init__ : Binds K fd_Store___init__ ["self", "names", "cells"] [] := F_Store___init__.bindsN fun _ _ _ _ _ _ us hl => match us, hl with | [_, _, _], _ => rfl
  have k_check_store : Binds K fd_check_store ["value"] [] := F_check_store.bindsN fun _ _ _ _ _ _ us hl => match us, hl with | [_], _ => rfl
  have k_arrows_into : Binds K fd_arrows_into ["store", "place"] [] := F_arrows_into.bindsN fun _ _ _ _ _ _ us hl => match us, hl with | [_, _], _ => rfl
  have k_name_places : Binds K fd_name_places ["store"] [] := F_name_places.bindsN fun _ _ _ _ _ _ us hl => match us, hl with | [_], _ => rfl
  have k_unasked_cells : Binds K fd_unasked_cells ["leads", "cells"] [] := F_unasked_cells.bindsN fun _ _ _ _ _ _ us hl => match us, hl with | [_, _], _ => rfl
  have k_unasked : Binds K fd_unasked ["store"] [] := F_unasked.bindsN fun _ _ _ _ _ _ us hl => match us, hl with | [_], _ => rfl
  have k_reached_cells : Binds K fd_reached_cells ["store"] [] := F_reached_cells.bindsN fun _ _ _ _ _ _ us hl => match us, hl with | [_], _ => rfl
  have k_ring_from : Binds K fd_ring_from ["row", "place"] [] := F_ring_from.bindsN fun _ _ _ _ _ _ us hl => match us, hl with | [_, _], _ => rfl
  have k_lost_rings : Binds K fd_lost_rings ["store"] [] := F_lost_rings.bindsN fun _ _ _ _ _ _ us hl => match us, hl with | [_], _ => rfl
  have k__law_urn : Binds K fd__law_urn ["_law_script", "_law_turn"] [] := F__law_urn.bindsN fun _ _ _ _ _ _ us hl => match us, hl with | [_, _], _ => rfl
  have k__law_take : Binds K fd__law_take ["_law_urn_here", "_law_size"] [] := F__law_take.bindsN fun _ _ _ _ _ _ us hl => match us, hl with | [_, _], _ => rfl
  have k__law_of : Binds K fd__law_of ["_law_urn_here", "_law_some"] [] := F__law_of.bindsN fun _ _ _ _ _ _ us hl => match us, hl with | [_, _], _ => rfl
  have k__law_letters : Binds K fd__law_letters ["_law_urn_here", "_law_many"] [] := F__law_letters.bindsN fun _ _ _ _ _ _ us hl => match us, hl with | [_, _], _ => rfl
  have k__law_places : Binds K fd__law_places ["_law_urn_here", "_law_many"] [] := F__law_places.bindsN fun _ _ _ _ _ _ us hl => match us, hl with | [_, _], _ => rfl
  have k__law_store : Binds K fd__law_store ["_law_urn_here", "_law_letters_here", "_law_most"] [] := F__law_store.bindsN fun _ _ _ _ _ _ us hl => match us, hl with | [_, _, _], _ => rfl
  have k__law_text : Binds K fd__law_text ["_law_store_here"] [] := F__law_text.bindsN fun _ _ _ _ _ _ us hl => match us, hl with | [_], _ => rfl
  have k__law_made : Binds K fd__law_made ["_law_store_here"] [] := F__law_made.bindsN fun _ _ _ _ _ _ us hl => match us, hl with | [_], _ => rfl
  have k__law_way : Binds K fd__law_way ["_law_store_here", "_law_at"] [] := F__law_way.bindsN fun _ _ _ _ _ _ us hl => match us, hl with | [_, _], _ => rfl
  have k__law_reached : Binds K fd__law_reached ["_law_store_here"] [] := F__law_reached.bindsN fun _ _ _ _ _ _ us hl => match us, hl with | [_], _ => rfl
  have k__law_rings : Binds K fd__law_rings ["_law_store_here"] [] := F__law_rings.bindsN fun _ _ _ _ _ _ us hl => match us, hl with | [_], _ => rfl
  have k__law_crowd : Binds K fd__law_crowd ["_law_urn_here", "_law_letters_here", "_law_most"] [] := F__law_crowd.bindsN fun _ _ _ _ _ _ us hl => match us, hl with | [_, _, _], _ => rfl
  have k__law_right : Binds K fd__law_right ["_law_urn_here"] [] := F__law_right.bindsN fun _ _ _ _ _ _ us hl => match us, hl with | [_], _ => rfl
  have k_law : Binds K fd_law ["_law_script"] [] := F_law.bindsN fun _ _ _ _ _ _ us hl => match us, hl with | [_], _ => rfl
  have k_Store_text : Binds K fd_Store_text ["self"] [] := F_Store_text.bindsN fun _ _ _ _ _ _ us hl => match us, hl with | [_], _ => rfl
  have e_law := hfa.symm.trans g_law
  cases e_law
  have bA := FunD.bindsA (ps := ["_law_script"]) F_law fun _ _ _ _ _ _ us hl => match us, hl with | [_], _ => rfl
  simp only [ex, Bool.and_eq_true, decide_eq_true_eq] at xx
  obtain ⟨x1, x2⟩ := xx
  have T : Tx mg := ⟨b_len, b_int, b_isinstance, b_abs, b_divmod, b_range, b_max, b_min, b_repr, b_all, b_list, b_tuple, b_str, b_bool, b_dict, b_enumerate, b_sorted, b_sum, b_set, i_LETTERS, i_END, i_MOST_PLACE, i_MOST_CELLS, i_MOST_NAMES⟩
  have S := Sm.sysB_ok x1
  have W : StB K (He.ga K "Store") := ⟨z_cls, z_n, z_c, z_p, z_a, z_l⟩
  have L : StM K mg (He.ga K "Store") (He.ma K (He.ga K "Store") "__init__") := ⟨Lo.ownB_ok x2 z_cls, z_mk, g_Store⟩
  have C_is_whole := fun (base : Heap) => (⟨g_is_whole, F_is_whole.kp, k_is_whole, ok_whole T F_is_whole⟩ : Cal P w K mg base CX0 1 "is_whole" _ spWhole _ _)
  have C_is_between := fun (base : Heap) => (⟨g_is_between, F_is_between.kp, k_is_between, ok_between T F_is_between (C_is_whole base)⟩ : Cal P w K mg base CX0 2 "is_between" _ spBetween _ _)
  have C_is_place := fun (base : Heap) => (⟨g_is_place, F_is_place.kp, k_is_place, ok_place T F_is_place (C_is_between base)⟩ : Cal P w K mg base CX0 3 "is_place" _ spPlace _ _)
  have C_is_letter := fun (base : Heap) => (⟨g_is_letter, F_is_letter.kp, k_is_letter, ok_letter T F_is_letter⟩ : Cal P w K mg base CX0 1 "is_letter" _ spLetter _ _)
  have C_is_pair := fun (base : Heap) => (⟨g_is_pair, F_is_pair.kp, k_is_pair, ok_pair T F_is_pair⟩ : Cal P w K mg base CX0 1 "is_pair" _ (spPair K) _ _)
  have C_are_name_pairs := fun (base : Heap) => (⟨g_are_name_pairs, F_are_name_pairs.kp, k_are_name_pairs, ok_nm T F_are_name_pairs (C_is_pair base) (C_is_letter base) (C_is_place base)⟩ : Cal P w K mg base CX0 4 "are_name_pairs" _ (spNames K) _ _)
  have C_check_cells := fun (base : Heap) => (⟨g_check_cells, F_check_cells.kp, k_check_cells, ok_cl T F_check_cells (C_is_pair base) (C_is_place base)⟩ : Cal P w K mg base CX0 4 "check_cells" _ (spCells K) _ _)
  have FI := fun (base : Heap) => (ok_in T W F_Store___init__ (C_are_name_pairs base) (C_check_cells base) : FnOk P w K mg base CX0 5 _ _ ["self", "names", "cells"] (spInit K (He.ga K "Store")))
  have PT := fun (base : Heap) => (⟨P_Store_text, k_Store_text, ok_tx T W F_Store_text⟩ : Prp.PrC P w K mg base 1 (He.ga K "Store") "text" (spText K (He.ga K "Store")) _ _ _)
  have C_check_store := fun (base : Heap) => (⟨g_check_store, F_check_store.kp, k_check_store, ok_chk T L F_check_store⟩ : Cal P w K mg base CX0 1 "check_store" _ (spChk K (He.ga K "Store")) _ _)
  have C_arrows_into := fun (base : Heap) => (⟨g_arrows_into, F_arrows_into.kp, k_arrows_into, ok_into T W F_arrows_into (C_check_store base) (C_is_place base)⟩ : Cal P w K mg base CX0 4 "arrows_into" _ (spInto K (He.ga K "Store")) _ _)
  have C_name_places := fun (base : Heap) => (⟨g_name_places, F_name_places.kp, k_name_places, ok_np T W F_name_places⟩ : Cal P w K mg base CX0 1 "name_places" _ (spNP K (He.ga K "Store")) _ _)
  have C_unasked_cells := fun (base : Heap) => (⟨g_unasked_cells, F_unasked_cells.kp, k_unasked_cells, ok_uc T F_unasked_cells⟩ : Cal P w K mg base CX0 1 "unasked_cells" _ (spUC K) _ _)
  have C_unasked := fun (base : Heap) => (⟨g_unasked, F_unasked.kp, k_unasked, ok_un T W F_unasked (C_check_store base) (C_name_places base) (C_unasked_cells base)⟩ : Cal P w K mg base CX0 2 "unasked" _ (spUn K (He.ga K "Store")) _ _)
  have C_reached_cells := fun (base : Heap) => (⟨g_reached_cells, F_reached_cells.kp, k_reached_cells, ok_rc T W F_reached_cells⟩ : Cal P w K mg base CX0 1 "reached_cells" _ (spRc K (He.ga K "Store")) _ _)
  have C_ring_from := fun (base : Heap) => (⟨g_ring_from, F_ring_from.kp, k_ring_from, ok_rf T F_ring_from⟩ : Cal P w K mg base CX0 1 "ring_from" _ (spRF K) _ _)
  have C_lost_rings := fun (base : Heap) => (⟨g_lost_rings, F_lost_rings.kp, k_lost_rings, ok_lr T W F_lost_rings (C_check_store base) (C_reached_cells base) (C_ring_from base)⟩ : Cal P w K mg base CX0 2 "lost_rings" _ (spLR K (He.ga K "Store")) _ _)
  have C__law_take := fun (base : Heap) => (⟨g__law_take, F__law_take.kp, k__law_take, ok_take T F__law_take⟩ : Cal P w K mg base CX0 1 "_law_take" _ spTake _ _)
  have C__law_of := fun (base : Heap) => (⟨g__law_of, F__law_of.kp, k__law_of, ok_of T F__law_of (C__law_take base)⟩ : Cal P w K mg base CX0 2 "_law_of" _ spPick _ _)
  have C__law_urn := fun (base : Heap) => (⟨g__law_urn, F__law_urn.kp, k__law_urn, ok_urn T F__law_urn⟩ : Cal P w K mg base CX0 1 "_law_urn" _ (spUrn K) _ _)
  have C__law_letters := fun (base : Heap) => (⟨g__law_letters, F__law_letters.kp, k__law_letters, ok_lt T F__law_letters (C__law_of base)⟩ : Cal P w K mg base CX0 3 "_law_letters" _ spLets _ _)
  have C__law_places := fun (base : Heap) => (⟨g__law_places, F__law_places.kp, k__law_places, ok_pl T F__law_places (C__law_take base) (C__law_of base)⟩ : Cal P w K mg base CX0 3 "_law_places" _ spPlaces _ _)
  have C__law_store := fun (base : Heap) => (⟨g__law_store, F__law_store.kp, k__law_store, ok_so T F__law_store (C__law_take base) (C__law_of base) (C__law_places base)⟩ : Cal P w K mg base CX0 4 "_law_store" _ spStore _ _)
  have C__law_text := fun (base : Heap) => (⟨g__law_text, F__law_text.kp, k__law_text, ok_txt T F__law_text⟩ : Cal P w K mg base CX0 1 "_law_text" _ spTxt _ _)
  have C__law_made := fun (base : Heap) => (⟨g__law_made, F__law_made.kp, k__law_made, ok_md T L F__law_made (FI base) k_Store___init__⟩ : Cal P w K mg base CX0 7 "_law_made" _ (spMade K (He.ga K "Store")) _ _)
  have C__law_way := fun (base : Heap) => (⟨g__law_way, F__law_way.kp, k__law_way, ok_way T F__law_way⟩ : Cal P w K mg base CX0 1 "_law_way" _ (spWay K) _ _)
  have C__law_reached := fun (base : Heap) => (⟨g__law_reached, F__law_reached.kp, k__law_reached, ok_lrc T F__law_reached (C__law_way base)⟩ : Cal P w K mg base CX0 2 "_law_reached" _ (spLRc K) _ _)
  have C__law_rings := fun (base : Heap) => (⟨g__law_rings, F__law_rings.kp, k__law_rings, ok_lrg T F__law_rings (C__law_way base) (C__law_reached base)⟩ : Cal P w K mg base CX0 3 "_law_rings" _ (spLRg K) _ _)
  have C__law_crowd := fun (base : Heap) => (⟨g__law_crowd, F__law_crowd.kp, k__law_crowd, ok_crowd T F__law_crowd (C__law_take base) (C__law_store base)⟩ : Cal P w K mg base CX0 5 "_law_crowd" _ spCrowd _ _)
  have w_arrows_into : KR K fd_arrows_into ["store", "place"] ["place", "store"] := kbn0 F_arrows_into ["place", "store"] (fun l => l.reverse) (fun r => Rv.vals_rev r) fun _ _ _ _ _ _ us hl => match us, hl with | [_, _], _ => rfl
  have w_unasked : KW K fd_unasked ["store"] := kbn0 F_unasked ["store"] (fun l => l) (fun r => r) fun _ _ _ _ _ _ us hl => match us, hl with | [_], _ => rfl
  have w_lost_rings : KW K fd_lost_rings ["store"] := kbn0 F_lost_rings ["store"] (fun l => l) (fun r => r) fun _ _ _ _ _ _ us hl => match us, hl with | [_], _ => rfl
  have C__law_right := fun (base : Heap) => (⟨g__law_right, F__law_right.kp, k__law_right, ok_right T S W L (PT base) F__law_right (C__law_take base) (C__law_letters base) (C__law_crowd base) (C__law_made base) (C_arrows_into base) w_arrows_into (C_unasked base) w_unasked (C_lost_rings base) w_lost_rings (C__law_rings base) (C__law_text base)⟩ : CalG P w K mg base CX0 10 "_law_right" _ spG _ _)
  exact ⟨fd_law, fun s v => bA s [v] rfl, fun base _ _ => ok_law T F_law (C__law_right base) (C__law_urn base)⟩
end K79H
open PySem PySem.W PySem.Calls PyProof.Rows
theorem PySem.Challenge.cw_arrowcells_k79_whole_arrows_and_lost_rin_holds : PySem.Challenge.rw_arrowcells_k79_whole_arrows_and_lost_rin.Holds := by
  w_on; o_law
  refine HandSHeadRun.head_any (r := OpenLaw.row PySem.Challenge.rw_arrowcells_k79_whole_arrows_and_lost_rin) (q := view (OpenLaw.row PySem.Challenge.rw_arrowcells_k79_whole_arrows_and_lost_rin).prog [47]) (H := K79H.hk) (ob := K79H.ob) (M := 5000) (loose := K79H.nm) (d := HandSHeadRun.topDef (OpenLaw.row PySem.Challenge.rw_arrowcells_k79_whole_arrows_and_lost_rin).prog 47) (kwd := []) K79H.ob_eq
    (by kernel_rfl) (fun s => by kernel_rfl) K79H.run (by kernel_rfl) (by kernel_rfl) (by kernel_rfl) (by rfl) (by first | assumption | decide +kernel) (by decide +kernel) ⟨rfl, rfl, rfl, rfl, rfl, by decide +kernel⟩ ?hw ?hc
  case hw => w_witness2
  case hc =>
    refine Ga.walk_G (l := PySem.Challenge.rw_arrowcells_k79_whole_arrows_and_lost_rin) (n := 63) (k := 11) (x := "_law_script") (CX := fun _ => L2.CX0) rfl (by decide) (by kernel_rfl) ⟨rfl, by decide, by decide⟩ ?F (fun _ _ _ _ _ z => z)
    intro w mg fa h Y G hmg0
    obtain ⟨K, KX, c, cx, pp⟩ := Y
    have hmg : mg ("law" : PySem.Str) = some (.ref fa) := by
      have e : (HandSHeadRun.topDef (OpenLaw.row PySem.Challenge.rw_arrowcells_k79_whole_arrows_and_lost_rin).prog 47).name = ("law" : PySem.Str) := by kernel_rfl
      rw [← e]
      exact hmg0
    obtain ⟨fd, hb, hF⟩ := K79H.facts (P := (PySem.Challenge.rw_arrowcells_k79_whole_arrows_and_lost_rin).prog) (w := w) KX G hmg c cx pp
    exact ⟨K, fd, K79.spLaw K, KX, hb, fun H a ns hl _ hS => ⟨a, ns, rfl, hS, hl, fun _ => rfl⟩, hF⟩

